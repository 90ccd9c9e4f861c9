import PyProof.Rows.All
import Wide.All
import OpenK.AllK
import Wide.FinOn
import HandS.ForMost
import HandS.Zip
import HandS.TupAny
import HandS.TupMul
import HandS.TupLe
import HandS.DictComp
import HandS.Defaults
import HandS.Style
import HandS.IsInst
import HandS.Walk
import HandS.More
import KE.GoesEnum
import PySem.Challenge.RW_lagworks_k08_whole_one_told_form
set_option Elab.async false
set_option linter.all false
set_option maxRecDepth 100000
set_option maxHeartbeats 4000000
/-! rules of my own: enumerate of a tuple, tuple greater than tuple, tuple times 0 and 1 -/
namespace K8
open PySem PySem.Spec PyProof.Rows L2
def IteT (K : PySem.W.Frag) (a : Addr) : It :=
  ⟨fun i H => ∃ (xs : List V) (x : V), SqT K H a xs ∧ xs[i]? = some x, fun i H v H' => ∃ T x, v = .ref T ∧ H T = none ∧ H' = upd H T (.tup [.int (i : Nat), x]) ∧ ∀ xs, SqT K H a xs → xs[i]? = some x, fun i H => ∃ xs : List V, SqT K H a xs ∧ xs.length = i⟩
theorem iter_ne {h : Heap} {it a : Addr} {i : Nat} {items : Array Value} (p : h.IsTuple a items) (q : h.IsTupleIter it a i) : a ≠ it := by
  obtain ⟨o, ho, hc, _⟩ := p
  obtain ⟨u, hu, hc2, _⟩ := q
  intro e
  subst e
  rw [ho] at hu
  cases hu
  rw [hc] at hc2
  exact absurd hc2 (by decide)
theorem meets_enumT (l : Addr) (items : Array Value) :
    Meets (Builtin.«enumerate.__new__» ⟨[.type "enumerate", .ref l], []⟩) (fun _ R s => s.heap.IsTuple l items ∧
      R (.ok (.ret (.ref (s.heap.push { cls := .type "tuple_iterator", data := .fields #[.ref l, .int 0 0] }).objs.size)))
        { s with heap := (s.heap.push { cls := .type "tuple_iterator", data := .fields #[.ref l, .int 0 0] }).push { cls := .type "enumerate", data := .fields #[.none, .bool false, .ref s.heap.objs.size, rawInt 0, .none, .none] } }) :=
  .of_wp fun prog w A R s h => by
    obtain ⟨hp, g, d, tk, os⟩ := s; obtain ⟨hL, h⟩ := h
    have hsub := sub_enumerate
    have q1 : ∀ {A' : Around} {E : Value → Shared → Prop} {Q : Value → Shared → Prop}, Q (.ref hp.objs.size) ⟨hp.push { cls := .type "tuple_iterator", data := .fields #[.ref l, .int 0 0] }, g, d, tk, os⟩ → wpAny (model prog w) A' (pyIter (.ref l)) Q E ⟨hp, g, d, tk, os⟩ :=
      fun q => wpAny_pyIter_tuple (s := ⟨hp, g, d, tk, os⟩) hL q
    wp_walk using q1
    refine wpAny_stack_any fun st => wpAny_pure ?_
    split
    · rename_i c _ _ _ _ _
      cases (c == Value.type "enumerate")
      · wp_walk using q1
        exact ⟨_, rfl, h⟩
      · wp_walk using q1
        exact ⟨_, rfl, h⟩
    · wp_walk using q1
      exact ⟨_, rfl, h⟩
theorem call_enumT {prog : Program} {w : World} {A : Around} {E : Value → Shared → Prop} {s : Shared} {l : Addr} {items : Array Value} {Q : Value → Shared → Prop} (hL : s.heap.IsTuple l items)
    (h : ∀ h', IsEnum h' (s.heap.objs.size + 1) s.heap.objs.size 0 .none → h'.IsTupleIter s.heap.objs.size l 0 → h'.objs.size = s.heap.objs.size + 2 →
      (∀ b o, s.heap.get? b = some o → h'.get? b = some o) → Q (.ref (s.heap.objs.size + 1)) { s with heap := h' }) :
    wpAny (model prog w) A (call (.type "enumerate") [.ref l]) Q E s := by
  refine callType_new F.called_enumerate (by decide) (F.typeCall_enumerate_1 _) (F.newCall_enumerate_1 _) (fun obj => F.args_object_init_2 obj _) F.entry_enumerate_new
    (meets_enumT l items) ⟨hL, ?_⟩
  have hz : (s.heap.push { cls := .type "tuple_iterator", data := .fields #[.ref l, .int 0 0] }).objs.size = s.heap.objs.size + 1 := Heap.size_push ..
  show _ ∧ _
  rw [hz]
  have he : IsEnum ((s.heap.push { cls := .type "tuple_iterator", data := .fields #[.ref l, .int 0 0] }).push
      { cls := .type "enumerate", data := .fields #[.none, .bool false, .ref s.heap.objs.size, rawInt 0, .none, .none] }) (s.heap.objs.size + 1) s.heap.objs.size 0 .none := by
    have := Heap.get?_push_size (s.heap.push { cls := .type "tuple_iterator", data := .fields #[.ref l, .int 0 0] })
      (o := { cls := .type "enumerate", data := .fields #[.none, .bool false, .ref s.heap.objs.size, rawInt 0, .none, .none] }) rfl
    rw [hz] at this; exact this
  refine ⟨⟨_, he, rfl⟩, h _ he ⟨_, Heap.get?_push_of_some _ (Heap.get?_push_size _ rfl), rfl, rfl⟩ (by rw [Heap.size_push, hz]) fun b o x => Heap.get?_push_of_some _ (Heap.get?_push_of_some _ x)⟩
theorem turn_enumT {P : Program} {w : World} {K : PySem.W.Frag} {elts : List Expr} {kk : Nat} {tpos : Pos} (a e it : Addr) :
    Turn P w K (.Tuple elts kk tpos) (IteT K a) [e, it] e (fun i h => (∃ old, IsEnum h e it ((i : Nat) : Int) old) ∧ h.IsTupleIter it a i ∧ e ≠ it) where
  mem := by simp
  obj := fun i h st b hb => by
    obtain ⟨⟨old, he⟩, ⟨o, ho, hc, hd⟩, _⟩ := st
    have e' : b = e ∨ b = it := by simpa using hb
    rcases e' with z | z
    · rw [z]; exact ⟨_, he, fun v q => nomatch q⟩
    · rw [z]; exact ⟨o, ho, fun v q => by rw [hd] at q; cases q⟩
  keep := fun i h h' st k => let ⟨⟨old, he⟩, hi, hne⟩ := st; ⟨⟨old, k e (by simp) _ he⟩, hi.at fun o q => k it (by simp) o q, hne⟩
  item := by
    intro X hP hw hK hc i pins s σ H E I hf st hg
    subst hP hw hK
    obtain ⟨⟨old, he⟩, hit, hne⟩ := st
    obtain ⟨xs, x, hq, hx⟩ := hg
    obtain ⟨its, rv, p, hz⟩ := I.tuple hq
    obtain ⟨u, hu, ru⟩ := rv.get hx
    have hel : e < s.heap.objs.size := Heap.lt_size he
    have hil : it < s.heap.objs.size := by obtain ⟨_, q, _⟩ := hit; exact Heap.lt_size q
    have hti : a ≠ it := iter_ne p hit
    have hea : e ≠ a := by
      obtain ⟨o, ho, hc', _⟩ := id p
      intro z
      subst z
      have := (show s.heap.get? e = some _ from he).symm.trans ho
      cases this
      exact absurd (Value.type.inj hc') (by decide)
    have hlt : i < its.toArray.size := by
      have := (List.getElem?_eq_some_iff.mp hu).1
      simpa using this
    refine wpAny_pyNext_enum_itemD (Draws.tuple (A := X.A.in1) (prog := X.prog) (w := X.w) (show X.A.in1.handled = none from I.ok.hd hc) it a hti its.toArray) he ⟨hit, p⟩ hlt hne (by simp; exact ⟨hne, hea⟩) fun y h' tk hy ho hst' hT hsz hk => ?_
    have ey : y = u := by
      rw [List.getElem?_toArray, hu] at hy
      exact (Option.some.inj hy).symm
    subst ey
    refine ⟨_, rfl, wpAny_letOwnedTupleGo_enum (s := { s with heap := h', toks := tk + 1 }) ho fun h'' he' sb => ?_⟩
    have hT2 : h''.get? s.heap.objs.size = some { cls := .type "tuple", data := .seq #[.int i tk, y] } := (sb.2 _ (Nat.ne_of_gt hel)).trans hT
    have new : ObjOk X.prog X.w (upd H s.heap.objs.size (.tup [.int (i : Nat), x])) h'' s.heap.objs.size (.tup [.int (i : Nat), x]) :=
      ⟨by show 2 ≤ sizeLine; decide, [.int i tk, y], .cons ⟨_, rfl⟩ (.cons ru .nil), ⟨_, hT2, rfl, _, rfl⟩⟩
    have I1 : Inv X pins σ (upd H s.heap.objs.size (.tup [.int (i : Nat), x])) { s with heap := h'', toks := tk + 1 } :=
      I.turnedNew (ch := [e, it]) (fun b ob hb q => (sb.2 b (fun z => hb (by simp [z]))).trans (hk b ob (fun z => hb (by simp [z])) (fun z => hb (by simp [z])) q)) hf (Nat.le_refl _) new
    refine ⟨.ref s.heap.objs.size, _, I1, rfl, ⟨_, x, rfl, I.hok.fresh (Nat.le_refl _), rfl, fun ys hy => by rw [I.tuple_inj hy hq]; exact hx⟩, ⟨⟨y, ?_⟩, hst'.1.at fun o q => (sb.2 it (Ne.symm hne)).trans q, hne⟩, fun b hb => ?_⟩
    · have e1 : ((i + 1 : Nat) : Int) = (i : Int) + 1 := by omega
      rw [e1]; exact he'
    · have hb' : b < s.heap.objs.size := by
        have e' : b = e ∨ b = it := by simpa using hb
        rcases e' with z | z
        · rw [z]; exact hel
        · rw [z]; exact hil
      rw [upd_ne (Nat.ne_of_lt hb')]
      exact (hf b hb).1
  done := by
    intro X hP hw hK hc i pins s σ H E I hf st hg
    subst hP hw hK
    obtain ⟨⟨old, he⟩, hit, hne⟩ := st
    obtain ⟨xs, hq, hx⟩ := hg
    obtain ⟨its, rv, p, hz⟩ := I.tuple hq
    obtain ⟨f0, f1, f2, f3, f4, f5⟩ := hf it (by simp)
    have hl := rv.length
    have hti : a ≠ it := iter_ne p hit
    have e0 : its.toArray.size = i := by
      rw [List.size_toArray]
      omega
    exact wpAny_pyNext_enum_endD (Draws.tuple (A := X.A.in1) (prog := X.prog) (w := X.w) (show X.A.in1.handled = none from I.ok.hd hc) it a hti its.toArray) he (by rw [e0]; exact ⟨hit, p⟩) fun h' eb => ⟨rfl, I.turned (t' := s.toks) (fun b o hb q => eb b o hb q) f0 f1 f3 f4 f5⟩
  self := fun A i s Q E st h => let ⟨⟨_, he⟩, _⟩ := st; wpAny_pyIter_enum he h
def iEnumT (K : PySem.W.Frag) (ta : TA) : TI := fun σ H R => ta σ H fun vs H1 => ∃ a xs, vs = [.ref a] ∧ SqT K H1 a xs ∧ R (IteT K a) H1
theorem pi_enumT {X : Cx} {e : Expr} {ta : TA} {p pos tpos : Pos} {elts : List Expr} {kk : Nat} (hg : Gl X "enumerate") (hm : X.mg "enumerate" = none) (ha : PA X [e] ta) (hs : starEach [e] X.env = [(false, eval e X.env)] := by rfl) :
    PI X (.Tuple elts kk tpos) (.Call (.Name "enumerate" p) [e] [] pos) (iEnumT X.K ta) := by
  refine ⟨fun pins s σ H R I h => ?_⟩
  refine Call_ (ld_blt I hg hm boot_enumerate (PyProof.Rows.callWith_type1 (thn (ha.run pos pins s σ H _ I h) fun us s1 ⟨vs, H1, I1, r1, q1⟩ => ?_) hs rfl))
  obtain ⟨a, xs, ex, hq, q⟩ := q1
  subst ex
  cases r1 with
  | cons r rr =>
    cases rr
    cases r
    obtain ⟨its, rv, p', hz⟩ := I1.tuple hq
    refine call_enumT (show s1.heap.IsTuple a its.toArray from p') fun h' he hit hsz hk => wpAny_pyIter_enum he ?_
    have I2 : Inv X pins σ H1 { s1 with heap := h' } := I1.kept (t' := s1.toks) hk
    refine ⟨s1.heap.objs.size + 1, [s1.heap.objs.size + 1, s1.heap.objs.size], _, _, H1, rfl, I2, turn_enumT a (s1.heap.objs.size + 1) s1.heap.objs.size, ⟨⟨.none, he⟩, hit, Nat.succ_ne_self _⟩, fun b hb => ?_, q⟩
    have e' : b = s1.heap.objs.size + 1 ∨ b = s1.heap.objs.size := by simpa using hb
    have hle : s1.heap.objs.size ≤ b := by
      rcases e' with z | z
      · rw [z]; exact Nat.le_add_right _ _
      · rw [z]; exact Nat.le_refl _
    exact I1.fpOk hle (I1.hok.fresh hle)
/-- a loop over enumerate of a tuple -/
theorem for_enumT {K : PySem.W.Frag} {a : Addr} {xs : List V} {g : TG} {tb : TS} {D : Ends} {σ : L2.St} {H : Hp} (Pv : Nat → L2.St → Hp → Prop) (h0 : Pv 0 σ H) (hq : ∀ i σ H, Pv i σ H → SqT K H a xs)
    (hs : ∀ i x T σ H, xs[i]? = some x → Pv i σ H → H T = none → g (.ref T) σ (upd H T (.tup [.int (i : Nat), x])) fun σ2 H2 => tb { D with nx := Pv (i + 1), ct := Pv (i + 1), bk := D.nx } σ2 H2) (hd : ∀ σ H, Pv xs.length σ H → D.nx σ H) :
    ∃ W : Nat → Nat → L2.St → Hp → Prop, (∃ m, W 0 m σ H) ∧ ∀ i m σ H, W i m σ H →
      ((IteT K a).stop i H ∧ D.nx σ H) ∨ ((IteT K a).go i H ∧ ∃ N : L2.St → Hp → Prop, (∀ σ' H', N σ' H' → ∃ m', m' < m ∧ W (i + 1) m' σ' H') ∧ ∀ x H', (IteT K a).yld i H x H' → g x σ H' fun σ2 H2 => tb { D with nx := N, ct := N, bk := D.nx } σ2 H2) := by
  refine ⟨fun i m σ H => m = xs.length - i ∧ i ≤ xs.length ∧ Pv i σ H, ⟨xs.length, by simp, Nat.zero_le _, h0⟩, ?_⟩
  rintro i m σ H ⟨rfl, hi, p⟩
  have q := hq i σ H p
  by_cases hlt : i < xs.length
  · refine .inr ⟨⟨xs, xs[i], q, by simp [hlt]⟩, Pv (i + 1), fun σ' H' p' => ⟨xs.length - (i + 1), by omega, rfl, hlt, p'⟩, fun x H' y => ?_⟩
    obtain ⟨T, x1, e, n, e2, f⟩ := y
    subst e e2
    exact hs i x1 T σ H (f _ q) p n
  · have e : i = xs.length := by omega
    subst e
    exact .inl ⟨⟨xs, q, rfl⟩, hd σ H p⟩
/-- tuple > tuple, of whole numbers -/
def rGtT (K : PySem.W.Frag) : R2 := fun x y H Q => ∃ (a b : Addr) (ns ms : List Int), x = .ref a ∧ y = .ref b ∧ SqT K H a (ns.map V.int) ∧ SqT K H b (ms.map V.int) ∧
  Q (.bl (Ob.lexAt (fun j => decide (ns.getD j 0 = ms.getD j 0)) (fun j => decide (ms.getD j 0 < ns.getD j 0)) (decide (ms.length < ns.length)) 0 (min ns.length ms.length))) H
theorem op_gtT {X : Cx} (hu : X.A.units < cLine) : OpR X (compareOp .Gt) (rGtT X.K) := by
  intro pins s σ H x y v u Q I rx ry h
  obtain ⟨a, b, ns, ms, rfl, rfl, ha, hb, q⟩ := h
  cases rx
  cases ry
  obtain ⟨its, r1, p1, _⟩ := I.tuple ha
  obtain ⟨its2, r2, p2, _⟩ := I.tuple hb
  have i1 : IntsAre its ns := Vals.ints r1
  have i2 : IntsAre its2 ms := Vals.ints r2
  have e1 : its.toArray.size = ns.length := by rw [List.size_toArray]; exact i1.length
  have e2 : its2.toArray.size = ms.length := by rw [List.size_toArray]; exact i2.length
  have at1 : ∀ j (h1 : j < its.toArray.size), ∃ t, its.toArray[j] = .int (ns.getD j 0) t := fun j h1 => PyProof.Rows.IntsAre.int_at i1 _ _ (by simp at h1; simp [h1])
  have at2 : ∀ j (h1 : j < its2.toArray.size), ∃ t, its2.toArray[j] = .int (ms.getD j 0) t := fun j h1 => PyProof.Rows.IntsAre.int_at i2 _ _ (by simp at h1; simp [h1])
  have R := Ob.RcOp.tuples_gt (A := X.A) (s := s) (e := fun j => decide (ns.getD j 0 = ms.getD j 0)) (r := fun j => decide (ms.getD j 0 < ns.getD j 0)) p1 p2 hu (fun j h1 h2 => by
    obtain ⟨t, et⟩ := at1 j h1
    obtain ⟨t', et'⟩ := at2 j h2
    rw [et, et']
    have z : (ns.getD j 0 == ms.getD j 0) = decide (ns.getD j 0 = ms.getD j 0) := by
      by_cases q : ns.getD j 0 = ms.getD j 0
      · rw [decide_eq_true q]; exact beq_iff_eq.mpr q
      · rw [decide_eq_false q]; exact beq_eq_false_iff_ne.mpr q
    rw [← z]
    exact SeqAt.EqAt.int_int _ _ _ _) (fun j h1 h2 _ => by
    obtain ⟨t, et⟩ := at1 j h1
    obtain ⟨t', et'⟩ := at2 j h2
    rw [et, et']
    exact Ob.RcOp.gt_int _ _ _ _)
  rw [e1, e2] at R
  have z : wpAny (model X.prog X.w) X.A (compareOp .Gt (.ref a) (.ref b)) (EP X pins σ Q) X.xe s := R X.prog X.w X.xe (EP X pins σ Q) ⟨.bl _, H, I, rfl, q⟩
  exact z
end K8

set_option Elab.async false
set_option linter.all false
set_option maxRecDepth 100000
set_option maxHeartbeats 4000000
/-! tuple times 1: the tuple itself -/
namespace K8
open PySem PySem.Spec PyProof.Rows L2
theorem tuple_mul1 (l : Addr) (items : Array Value) (n : Nat) (dd : Option Addr) (sl : Array (Option Value)) (u : Tok) :
    Meets (Builtin.«tuple.__mul__» ⟨[.ref l, .int 1 u], []⟩) (fun _ R s => s.heap.get? l = some { cls := .type "tuple", dict := dd, data := .seq items n, slots := sl } ∧
      R (.ok (.ret (Value.ref l))) s) :=
  .of_wp fun prog w A R s h => by
    obtain ⟨hp, g, d, tk, os⟩ := s
    obtain ⟨hl, h⟩ := h
    have f1 := AutoSeq1.idx_int
    have c1 : (items.isEmpty || (1 : Int) == 1) = true := by rw [show ((1 : Int) == 1) = true from rfl, Bool.or_true]
    wp_walk using wpAny_loadPart' hl
    repeat (first
      | (refine wpAny_ite_false (decide_eq_false (by decide)) ?_; wp_walk using wpAny_loadPart' hl)
      | (refine wpAny_ite_true (decide_eq_true c1) ?_; wp_walk using wpAny_loadPart' hl))
    exact ⟨_, rfl, h⟩
def rRepTA (K : PySem.W.Frag) : R2 := fun x y H Q => ∃ l k xs, x = .ref l ∧ y = .int k ∧ SqT K H l xs ∧ xs ≠ [] ∧ 1 ≤ k ∧ k ≤ 1000 ∧ xs.length ≤ 1000 ∧ (k = 1 → Q (.ref l) H) ∧ (2 ≤ k → ∀ p, H p = none → Q (.ref p) (upd H p (.tup (List.replicate k.toNat xs).flatten)))
theorem op_repTA {X : Cx} : OpR X (binaryOp .Mult) (rRepTA X.K) := by
  intro pins s σ H x y v u Q I rx ry h
  obtain ⟨l, k, xs, rfl, rfl, hT, hne, h1, h2, hz, q1, q2⟩ := h
  by_cases e : k = 1
  · subst e
    cases rx
    obtain ⟨t, rfl⟩ := ry
    obtain ⟨its, r, ⟨⟨cls, dd, data, sl⟩, ho, hc, n, hd⟩, hs⟩ := I.tuple hT
    simp only at hc hd
    subst hc hd
    refine wpAny_binaryOp_repeat_ref (T := "tuple") (U := "int") (by decide) ⟨_, ho, rfl⟩ (fun s' => typeIs_int s' 1 t) noFill_tuple_mul F.fills_int_mul F.slot_int_rmul repeat_tuple F.slot_int_index.lookup
      (call_meets F.slot_int_rmul (typeIs_int s 1 t) F.entry_int_rmul (F.args_int_rmul_2 _ _) (int_rmul_tuple 1 t l its.toArray n dd sl)
        ⟨ho, rfl, ⟨_, ho, rfl⟩, call_meets F.slot_tuple_mul ⟨_, ho, rfl⟩ F.entry_tuple_mul (F.args_tuple_mul_2 _ _) (tuple_mul1 l its.toArray n dd sl t) ⟨ho, ?_⟩⟩)
    exact ⟨.ref l, H, I, rfl, q1 rfl⟩
  · exact op_repT pins s σ H _ _ v u Q I rx ry ⟨l, k, xs, rfl, rfl, hT, hne, by omega, h2, hz, q2 (by omega)⟩
end K8

set_option Elab.async false
set_option linter.all false
namespace K8
/-! ### congruence -/
def Cg (p a b : Int) : Prop := ∃ c, a = b + p * c
theorem Cg.refl (p a : Int) : Cg p a a := ⟨0, by grind⟩
theorem Cg.of_eq {p a b : Int} (h : a = b) : Cg p a b := ⟨0, by grind⟩
theorem Cg.symm {p a b : Int} (h : Cg p a b) : Cg p b a := by
  obtain ⟨c, e⟩ := h
  exact ⟨-c, by grind⟩
theorem Cg.trans {p a b c : Int} (h : Cg p a b) (h' : Cg p b c) : Cg p a c := by
  obtain ⟨x, e⟩ := h
  obtain ⟨y, e'⟩ := h'
  exact ⟨x + y, by grind⟩
theorem Cg.add {p a b c d : Int} (h : Cg p a b) (h' : Cg p c d) : Cg p (a + c) (b + d) := by
  obtain ⟨x, e⟩ := h
  obtain ⟨y, e'⟩ := h'
  exact ⟨x + y, by grind⟩
theorem Cg.mul {p a b c d : Int} (h : Cg p a b) (h' : Cg p c d) : Cg p (a * c) (b * d) := by
  obtain ⟨x, e⟩ := h
  obtain ⟨y, e'⟩ := h'
  exact ⟨b * y + d * x + p * x * y, by grind⟩
theorem Cg.mulL {p b d : Int} (a : Int) (h' : Cg p b d) : Cg p (a * b) (a * d) := Cg.mul (Cg.refl p a) h'
theorem Cg.emod (p a : Int) : Cg p (a % p) a := ⟨-(a / p), by
  have := Int.emod_add_mul_ediv a p
  grind⟩
theorem Cg.of_emod {p a b : Int} (h : a % p = b % p) : Cg p a b := (Cg.emod p a).symm.trans ((Cg.of_eq h).trans (Cg.emod p b))
theorem Cg.to_emod {p a b : Int} (h : Cg p a b) : a % p = b % p := by
  obtain ⟨c, e⟩ := h
  rw [e, Int.add_mul_emod_self_left]
theorem Cg.eq_of {p a b : Int} (h : Cg p a b) (a0 : 0 ≤ a) (a1 : a < p) (b0 : 0 ≤ b) (b1 : b < p) : a = b := by
  have := h.to_emod
  rwa [Int.emod_eq_of_lt a0 a1, Int.emod_eq_of_lt b0 b1] at this
theorem Cg.zero_iff {p a : Int} : Cg p a 0 ↔ a % p = 0 := ⟨fun h => by rw [h.to_emod]; exact Int.zero_emod p, fun h => .of_emod (by rw [h, Int.zero_emod])⟩
theorem Cg.ne0 {p a : Int} (a0 : 0 < a) (a1 : a < p) : ¬ Cg p a 0 := fun h => by
  have := h.eq_of (Int.le_of_lt a0) a1 (Int.le_refl 0) (by omega)
  omega

/-! ### the primes -/
def PRIMES : List Int := [2, 3, 5, 7, 11, 13, 17, 19, 23, 29, 31, 37, 41, 43, 47, 53, 59, 61, 67, 71, 73, 79, 83, 89, 97]
def powI (n p : Int) : Nat → Int
  | 0 => 1
  | k + 1 => powI n p k * n % p
def und (n p : Int) : Int := powI n p (p - 2).toNat
theorem und_all : (PRIMES.all fun p => (List.range (p.toNat - 1)).all fun k => und ((k : Int) + 1) p * ((k : Int) + 1) % p == 1) = true := by decide +kernel
theorem und_ok {p n : Int} (hp : p ∈ PRIMES) (h0 : 0 < n) (h1 : n < p) : Cg p (und n p * n) 1 := by
  have h := List.all_eq_true.mp (List.all_eq_true.mp und_all p hp) (n.toNat - 1) (List.mem_range.mpr (by omega))
  have e : (((n.toNat - 1 : Nat)) : Int) + 1 = n := by omega
  rw [e] at h
  refine .of_emod ?_
  rw [eq_of_beq h]
  have h2 : (PRIMES.all fun p => 1 % p == 1) = true := by decide +kernel
  exact (eq_of_beq (List.all_eq_true.mp h2 p hp)).symm
theorem prime_pos {p : Int} (hp : p ∈ PRIMES) : 2 ≤ p ∧ p ≤ 97 := by
  have h : (PRIMES.all fun p => decide (2 ≤ p) && decide (p ≤ 97)) = true := by decide +kernel
  have := List.all_eq_true.mp h p hp
  simpa using this
theorem powI_range {n p : Int} (hp : 2 ≤ p) : ∀ k, 0 ≤ powI n p k ∧ powI n p k < p
  | 0 => ⟨by show (0 : Int) ≤ 1; omega, by show (1 : Int) < p; omega⟩
  | k + 1 => ⟨Int.emod_nonneg _ (by omega), Int.emod_lt_of_pos _ (by omega)⟩
theorem und_range {n p : Int} (hp : p ∈ PRIMES) : 0 ≤ und n p ∧ und n p < p := powI_range (prime_pos hp).1 _
/-- no divisors of nought -/
theorem Cg.field {p a b : Int} (hp : p ∈ PRIMES) (h : Cg p (a * b) 0) (ha : ¬ Cg p a 0) : Cg p b 0 := by
  have p2 := (prime_pos hp).1
  have n0 : 0 ≤ a % p := Int.emod_nonneg _ (by omega)
  have n1 : a % p < p := Int.emod_lt_of_pos _ (by omega)
  have nz : a % p ≠ 0 := fun e => ha (Cg.zero_iff.mpr e)
  obtain ⟨c, hc⟩ := und_ok hp (n := a % p) (by omega) n1
  obtain ⟨d, hd⟩ := Cg.emod p a
  obtain ⟨e, he⟩ := h
  generalize und (a % p) p = u at hc
  generalize a % p = n at *
  subst hd
  refine ⟨u * e + u * d * b - c * b, ?_⟩
  grind

/-! ### coefficient functions -/
abbrev Fn := Nat → Int
def sh (m : Nat) (f : Fn) : Fn := fun n => if n < m then 0 else f (n - m)
theorem sh_lt {m n : Nat} {f : Fn} (h : n < m) : sh m f n = 0 := if_pos h
theorem sh_ge {m n : Nat} {f : Fn} (h : m ≤ n) : sh m f n = f (n - m) := if_neg (by omega)
theorem sh_zero (f : Fn) (n : Nat) : sh 0 f n = f n := by rw [sh_ge (Nat.zero_le _)]; rfl
theorem sh_sh (a b : Nat) (f : Fn) (n : Nat) : sh a (sh b f) n = sh (a + b) f n := by
  unfold sh
  by_cases h : n < a
  · rw [if_pos h, if_pos (by omega)]
  · rw [if_neg h]
    by_cases h2 : n - a < b
    · rw [if_pos h2, if_pos (by omega)]
    · rw [if_neg h2, if_neg (by omega), show n - a - b = n - (a + b) by omega]
theorem sh_cg {p : Int} {f g : Fn} (h : ∀ n, Cg p (f n) (g n)) (m n : Nat) : Cg p (sh m f n) (sh m g n) := by
  unfold sh
  split
  · exact .refl _ _
  · exact h _
theorem sh_lin (m : Nat) (f g : Fn) (k : Int) (n : Nat) : sh m (fun i => f i + k * g i) n = sh m f n + k * sh m g n := by
  unfold sh
  split
  · grind
  · rfl
/-- the lead -/
def Lead (p : Int) (f : Fn) (n : Nat) : Prop := ¬ Cg p (f n) 0 ∧ ∀ m, n < m → Cg p (f m) 0
theorem Lead.uniq {p : Int} {f : Fn} {n m : Nat} (a : Lead p f n) (b : Lead p f m) : n = m := by
  rcases Nat.lt_trichotomy n m with h | h | h
  · exact absurd (a.2 m h) b.1
  · exact h
  · exact absurd (b.2 n h) a.1
theorem Lead.congr {p : Int} {f g : Fn} {n : Nat} (a : Lead p f n) (h : ∀ n, Cg p (g n) (f n)) : Lead p g n :=
  ⟨fun z => a.1 ((h n).symm.trans z), fun m hm => (h m).trans (a.2 m hm)⟩
theorem lead_or {p : Int} {f : Fn} : ∀ N, (∀ n, N ≤ n → Cg p (f n) 0) → (∀ n, Cg p (f n) 0) ∨ ∃ n, n < N ∧ Lead p f n
  | 0, h => .inl fun n => h n (Nat.zero_le _)
  | N + 1, h => by
    by_cases z : Cg p (f N) 0
    · rcases lead_or N (fun n hn => by
        by_cases e : n = N
        · rw [e]; exact z
        · exact h n (by omega)) with a | ⟨n, hn, l⟩
      · exact .inl a
      · exact .inr ⟨n, by omega, l⟩
    · exact .inr ⟨N, Nat.lt_succ_self _, z, fun m hm => h m hm⟩

/-! ### what follows from a set -/
inductive Sp (p : Int) (w : Nat) (R : Fn → Prop) : Fn → Prop
  | zero {f : Fn} (h : ∀ n, Cg p (f n) 0) : Sp p w R f
  | step {f g r : Fn} (k : Int) (b : Nat) (hg : Sp p w R g) (hr : R r) (h : ∀ n, Cg p (f n) (g n + k * sh (b * w) r n)) : Sp p w R f
section
variable {p : Int} {w : Nat} {R R' : Fn → Prop} {f g h : Fn}
theorem Sp.congr (hf : Sp p w R f) (e : ∀ n, Cg p (g n) (f n)) : Sp p w R g := by
  cases hf with
  | zero z => exact .zero fun n => (e n).trans (z n)
  | step k b hg hr z => exact .step k b hg hr fun n => (e n).trans (z n)
theorem Sp.add (hf : Sp p w R f) : ∀ {g h : Fn}, Sp p w R g → (∀ n, Cg p (h n) (f n + g n)) → Sp p w R h := by
  induction hf with
  | zero z => intro g h hg e; exact hg.congr fun n => (e n).trans (((z n).add (Cg.refl p (g n))).trans (.of_eq (by grind)))
  | step k b hg1 hr z ih =>
    rename_i f1 g1 r1
    intro g h hg e
    exact .step k b (ih (h := fun n => g1 n + g n) hg fun n => .refl _ _) hr fun n => (e n).trans (((z n).add (Cg.refl p (g n))).trans (.of_eq (by grind)))
theorem Sp.smul (hf : Sp p w R f) : ∀ {h : Fn} (k : Int) (b : Nat), (∀ n, Cg p (h n) (k * sh (b * w) f n)) → Sp p w R h := by
  induction hf with
  | zero z =>
    intro h k b e
    refine .zero fun n => (e n).trans ((Cg.mulL k (sh_cg (g := fun _ => 0) z (b * w) n)).trans (.of_eq ?_))
    unfold sh; split <;> grind
  | step k' b' hg1 hr z ih =>
    rename_i f1 g1 r1
    intro h k b e
    refine .step (k * k') (b + b') (ih (h := fun n => k * sh (b * w) g1 n) k b fun n => .refl _ _) hr fun n => (e n).trans ((Cg.mulL k (sh_cg z (b * w) n)).trans (.of_eq ?_))
    rw [sh_lin, sh_sh, Nat.add_mul]
    grind
theorem Sp.mem {r : Fn} (hr : R r) : Sp p w R r := .step 1 0 (.zero (f := fun _ => 0) fun n => .refl _ _) hr fun n => .of_eq (by rw [Nat.zero_mul, sh_zero]; grind)
theorem Sp.bind (hf : Sp p w R f) (sub : ∀ r, R r → Sp p w R' r) : Sp p w R' f := by
  induction hf with
  | zero z => exact .zero z
  | step k b _ hr z ih => exact ih.add ((sub _ hr).smul (h := fun n => k * sh (b * w) _ n) k b fun n => .refl _ _) z
/-- adding a multiple of one -/
theorem Sp.addmul {r : Fn} (hg : Sp p w R g) (hr : Sp p w R r) (k : Int) (b : Nat) (e : ∀ n, Cg p (f n) (g n + k * sh (b * w) r n)) : Sp p w R f :=
  hg.add (hr.smul (h := fun n => k * sh (b * w) r n) k b fun n => .refl _ _) e

/-! ### leads of what follows -/
inductive Std (p : Int) (w : Nat) (R : Fn → Prop) : Fn → Prop
  | zero {f : Fn} (h : ∀ n, Cg p (f n) 0) : Std p w R f
  | step {f g r : Fn} {n : Nat} (k : Int) (b : Nat) (hg : Std p w R g) (hr : R r) (hl : Lead p r n) (bd : ∀ m, n + b * w ≤ m → Cg p (g m) 0) (hk : ¬ Cg p k 0)
      (h : ∀ n, Cg p (f n) (g n + k * sh (b * w) r n)) : Std p w R f
theorem Std.congr (hf : Std p w R f) (e : ∀ n, Cg p (g n) (f n)) : Std p w R g := by
  cases hf with
  | zero z => exact .zero fun n => (e n).trans (z n)
  | step k b hg hr hl bd hk z => exact .step k b hg hr hl bd hk fun n => (e n).trans (z n)
theorem sh_above {r : Fn} {n b m : Nat} (hl : Lead p r n) (h : n + b < m) : Cg p (sh b r m) 0 := by
  rw [sh_ge (by omega)]
  exact hl.2 _ (by omega)
theorem Std.addmul (hR : ∀ r r' n n', R r → R r' → Lead p r n → Lead p r' n' → n % w = n' % w → r = r') (hw : 0 < w) (hv : Std p w R g) :
    ∀ {f r : Fn} {n : Nat} (k : Int) (b : Nat), R r → Lead p r n → (∀ n, Cg p (f n) (g n + k * sh (b * w) r n)) → Std p w R f := by
  induction hv with
  | zero z =>
    intro f r n k b hr hl e
    by_cases hk : Cg p k 0
    · exact .zero fun m => (e m).trans (((z m).add (hk.mul (Cg.refl p _))).trans (.of_eq (by grind)))
    · exact .step k b (.zero (f := fun _ => 0) fun _ => .refl _ _) hr hl (fun _ _ => .refl _ _) hk fun m => (e m).trans ((z m).add (Cg.refl p _))
  | step k' b' hg hr' hl' bd hk' z ih =>
    rename_i f1 g1 r1 n1
    intro f r n k b hr hl e
    by_cases hk : Cg p k 0
    · exact (Std.step k' b' hg hr' hl' bd hk' z).congr fun m => (e m).trans (((Cg.refl p _).add (hk.mul (Cg.refl p _))).trans (.of_eq (by grind)))
    rcases Nat.lt_trichotomy (n1 + b' * w) (n + b * w) with h | h | h
    · refine .step k b (.step k' b' hg hr' hl' bd hk' z) hr hl (fun m hm => ?_) hk e
      exact (z m).trans (((bd m (by omega)).add (Cg.mulL k' (sh_above hl' (by omega)))).trans (.of_eq (by grind)))
    · have er : n1 % w = n % w := by
        have := congrArg (· % w) h
        simpa [Nat.add_mul_mod_self_right] using this
      have e1 := hR r1 r n1 n hr' hr hl' hl er
      subst e1
      have en := hl'.uniq hl
      subst en
      have eb : b' = b := by
        have : b' * w = b * w := by omega
        exact Nat.eq_of_mul_eq_mul_right hw this
      subst eb
      by_cases hs : Cg p (k' + k) 0
      · exact hg.congr fun m => (e m).trans (((z m).add (Cg.refl p _)).trans ((Cg.of_eq (by grind : g1 m + k' * sh (b' * w) r1 m + k * sh (b' * w) r1 m = g1 m + (k' + k) * sh (b' * w) r1 m)).trans (((Cg.refl p _).add (hs.mul (Cg.refl p _))).trans (.of_eq (by grind)))))
      · exact .step (k' + k) b' hg hr' hl' bd hs fun m => (e m).trans (((z m).add (Cg.refl p _)).trans (.of_eq (by grind)))
    · refine .step k' b' (ih (f := fun m => g1 m + k * sh (b * w) r m) k b hr hl fun m => .refl _ _) hr' hl' (fun m hm => ?_) hk' fun m => (e m).trans (((z m).add (Cg.refl p _)).trans (.of_eq (by grind)))
      exact ((bd m hm).add (Cg.mulL k (sh_above hl (by omega)))).trans (.of_eq (by grind))
theorem Sp.std (hR : ∀ r r' n n', R r → R r' → Lead p r n → Lead p r' n' → n % w = n' % w → r = r') (hL : ∀ r, R r → ∃ n, Lead p r n) (hw : 0 < w) (hf : Sp p w R f) : Std p w R f := by
  induction hf with
  | zero z => exact .zero z
  | step k b _ hr z ih =>
    obtain ⟨n, hl⟩ := hL _ hr
    exact ih.addmul hR hw k b hr hl z
theorem Sp.lead (hp : p ∈ PRIMES) (hR : ∀ r r' n n', R r → R r' → Lead p r n → Lead p r' n' → n % w = n' % w → r = r') (hL : ∀ r, R r → ∃ n, Lead p r n) (hw : 0 < w) (hf : Sp p w R f) {m : Nat} (l : Lead p f m) :
    ∃ r n, R r ∧ Lead p r n ∧ n ≤ m ∧ n % w = m % w := by
  cases hf.std hR hL hw with
  | zero z => exact absurd (z m) l.1
  | step k b hg hr hl bd hk z =>
    rename_i g1 r1 n1
    have l' : Lead p f (n1 + b * w) := by
      refine ⟨fun y => hl.1 ?_, fun i hi => ?_⟩
      · have a1 : Cg p (k * r1 n1) 0 := by
          have := (z (n1 + b * w)).symm.trans y
          rw [sh_ge (by omega), show n1 + b * w - b * w = n1 by omega] at this
          have q := ((bd _ (Nat.le_refl _)).symm.add (Cg.refl p (k * r1 n1))).trans this
          rwa [Int.zero_add] at q
        exact Cg.field hp a1 hk
      · exact (z i).trans (((bd i (by omega)).add (Cg.mulL k (sh_above hl hi))).trans (.of_eq (by grind)))
    have e := l.uniq l'
    exact ⟨r1, n1, hr, hl, by omega, by rw [e, Nat.add_mul_mod_self_right]⟩
end
end K8
namespace K8
/-! ### rows -/
abbrev Poly := List Int
abbrev Row := List Poly
def cf (l : Poly) : Fn := fun n => l.getD n 0
def co (w : Nat) (row : Row) : Fn := fun n => cf (row.getD (n % w) []) (n / w)
def Canon (p : Int) (l : Poly) : Prop := (∀ x ∈ l, 0 ≤ x ∧ x < p) ∧ ∀ x, l.getLast? = some x → x ≠ 0
structure RowOk (p : Int) (w : Nat) (row : Row) : Prop where
  len : row.length = w
  can : ∀ l ∈ row, Canon p l
def Short (b : Nat) (row : Row) : Prop := ∀ l ∈ row, l.length ≤ b
theorem canon_nil (p : Int) : Canon p [] := ⟨fun _ h => (nomatch h), fun _ h => (nomatch h)⟩
theorem cf_out {l : Poly} {n : Nat} (h : l.length ≤ n) : cf l n = 0 := by
  unfold cf
  rw [List.getD_eq_getElem?_getD, List.getElem?_eq_none h]
  rfl
theorem cf_in {l : Poly} {n : Nat} (h : n < l.length) : cf l n = l[n] := by
  unfold cf
  rw [List.getD_eq_getElem?_getD, List.getElem?_eq_getElem h]
  rfl
theorem cf_some {l : Poly} {n : Nat} {x : Int} (h : l[n]? = some x) : cf l n = x := by
  unfold cf
  rw [List.getD_eq_getElem?_getD, h]
  rfl
theorem cf_range {p : Int} (hp : 0 < p) {l : Poly} (h : Canon p l) (n : Nat) : 0 ≤ cf l n ∧ cf l n < p := by
  by_cases hn : n < l.length
  · rw [cf_in hn]
    exact h.1 _ (List.getElem_mem hn)
  · rw [cf_out (by omega)]
    omega
theorem cf_last {p : Int} {l : Poly} (h : Canon p l) (hl : l ≠ []) : cf l (l.length - 1) ≠ 0 := by
  have h0 : 0 < l.length := List.length_pos_iff.mpr hl
  rw [cf_in (by omega)]
  refine h.2 _ ?_
  rw [List.getLast?_eq_getElem?, List.getElem?_eq_getElem (by omega)]
theorem cf_last_cg {p : Int} (hp : 0 < p) {l : Poly} (h : Canon p l) (hl : l ≠ []) : ¬ Cg p (cf l (l.length - 1)) 0 := by
  have a := cf_range hp h (l.length - 1)
  have b := cf_last h hl
  exact Cg.ne0 (by omega) a.2
theorem canon_ext {p : Int} (hp : 0 < p) {l l' : Poly} (h : Canon p l) (h' : Canon p l') (e : ∀ n, Cg p (cf l n) (cf l' n)) : l = l' := by
  have e' : ∀ n, cf l n = cf l' n := fun n => (e n).eq_of (cf_range hp h n).1 (cf_range hp h n).2 (cf_range hp h' n).1 (cf_range hp h' n).2
  have no : ∀ {a b : Poly}, Canon p b → (∀ n, cf a n = cf b n) → ¬ a.length < b.length := fun {a b} hb e hl => by
    have z := cf_last hb (List.length_pos_iff.mp (by omega))
    rw [← e, cf_out (by omega)] at z
    exact z rfl
  have len : l.length = l'.length := by
    have a := no h' e'
    have b := no h (fun n => (e' n).symm)
    omega
  refine List.ext_getElem len fun i h1 h2 => ?_
  have := e' i
  rwa [cf_in h1, cf_in h2] at this
theorem canon_len {p : Int} (hp : 0 < p) {l : Poly} (h : Canon p l) {m : Nat} (z : ∀ n, m ≤ n → Cg p (cf l n) 0) : l.length ≤ m := by
  refine Nat.le_of_not_lt fun hm => ?_
  exact cf_last_cg hp h (List.length_pos_iff.mp (by omega)) (z _ (by omega))
theorem ix_mod {w e : Nat} (t : Nat) (h : e < w) : (t * w + e) % w = e := by rw [Nat.add_comm, Nat.add_mul_mod_self_right, Nat.mod_eq_of_lt h]
theorem ix_div {w e : Nat} (t : Nat) (h : e < w) : (t * w + e) / w = t := by
  rw [Nat.mul_comm, Nat.mul_add_div (by omega), Nat.div_eq_of_lt h, Nat.add_zero]
theorem co_ix {w e : Nat} (row : Row) (t : Nat) (h : e < w) : co w row (t * w + e) = cf (row.getD e []) t := by
  unfold co
  rw [ix_mod t h, ix_div t h]
theorem getD_mem {row : Row} {e : Nat} (h : e < row.length) : row.getD e [] ∈ row := by
  rw [List.getD_eq_getElem?_getD, List.getElem?_eq_getElem h]
  exact List.getElem_mem h
theorem RowOk.at {p : Int} {w : Nat} {row : Row} (h : RowOk p w row) (e : Nat) : Canon p (row.getD e []) := by
  by_cases he : e < row.length
  · exact h.can _ (getD_mem he)
  · rw [List.getD_eq_getElem?_getD, List.getElem?_eq_none (by omega)]
    exact canon_nil p
theorem row_ext {p : Int} (hp : 0 < p) {w : Nat} {row row' : Row} (h : RowOk p w row) (h' : RowOk p w row') (e : ∀ n, Cg p (co w row n) (co w row' n)) : row = row' := by
  refine List.ext_getElem (h.len.trans h'.len.symm) fun i h1 h2 => ?_
  have hi : i < w := h.len ▸ h1
  have q := canon_ext hp (h.at i) (h'.at i) fun t => by
    have := e (t * w + i)
    rwa [co_ix row t hi, co_ix row' t hi] at this
  rwa [List.getD_eq_getElem?_getD, List.getElem?_eq_getElem h1, List.getD_eq_getElem?_getD, List.getElem?_eq_getElem h2] at q
/-- the place of an end's last residue -/
def rk (w : Nat) (row : Row) (e : Nat) : Nat := ((row.getD e []).length - 1) * w + e
theorem rk_mod {w e : Nat} (row : Row) (h : e < w) : rk w row e % w = e := ix_mod _ h
theorem ix_lt {w t e t' e' : Nat} (h : e < w) (h' : e' < w) : t * w + e < t' * w + e' ↔ t < t' ∨ (t = t' ∧ e < e') := by
  constructor
  · intro q
    rcases Nat.lt_trichotomy t t' with a | a | a
    · exact .inl a
    · subst a
      exact .inr ⟨rfl, by omega⟩
    · have : (t' + 1) * w ≤ t * w := Nat.mul_le_mul_right w a
      rw [Nat.add_mul] at this
      omega
  · rintro (a | ⟨a, b⟩)
    · have : (t + 1) * w ≤ t' * w := Nat.mul_le_mul_right w a
      rw [Nat.add_mul] at this
      omega
    · subst a
      omega
theorem lead_of {p : Int} (hp : 0 < p) {w : Nat} {row : Row} (h : RowOk p w row) {e : Nat} (he : e < w) (hn : row.getD e [] ≠ []) (top : ∀ e', e' < w → row.getD e' [] ≠ [] → rk w row e' ≤ rk w row e) : Lead p (co w row) (rk w row e) := by
  refine ⟨?_, fun m hm => ?_⟩
  · unfold rk
    rw [co_ix row _ he]
    exact cf_last_cg hp (h.at e) hn
  · have hmw : m % w < w := Nat.mod_lt _ (by omega)
    have em : m / w * w + m % w = m := by rw [Nat.mul_comm]; exact Nat.div_add_mod m w
    unfold co
    by_cases hz : row.getD (m % w) [] = []
    · rw [hz]
      exact .of_eq (cf_out (Nat.zero_le _))
    · have q := top _ hmw hz
      have q2 : rk w row (m % w) < m / w * w + m % w := by omega
      unfold rk at q2
      rw [ix_lt hmw hmw] at q2
      refine .of_eq (cf_out ?_)
      omega
theorem none_of {p : Int} {w : Nat} {row : Row} (hw : 0 < w) (top : ∀ e', e' < w → row.getD e' [] = []) (n : Nat) : Cg p (co w row n) 0 := by
  unfold co
  rw [top _ (Nat.mod_lt _ hw)]
  exact .of_eq (cf_out (Nat.zero_le _))
theorem lead_row {p : Int} (hp : 0 < p) {w : Nat} {row : Row} (hw : 0 < w) (h : RowOk p w row) {n : Nat} (l : Lead p (co w row) n) : row.getD (n % w) [] ≠ [] ∧ rk w row (n % w) = n := by
  have hnw : n % w < w := Nat.mod_lt _ hw
  have en : n / w * w + n % w = n := by rw [Nat.mul_comm]; exact Nat.div_add_mod n w
  have h1 : ¬ Cg p (cf (row.getD (n % w) []) (n / w)) 0 := l.1
  have hlt : n / w < (row.getD (n % w) []).length := by
    refine Nat.lt_of_not_le fun z => h1 (.of_eq (cf_out z))
  have hle : (row.getD (n % w) []).length ≤ n / w + 1 := canon_len hp (h.at _) fun t ht => by
    have := l.2 (t * w + n % w) (by
      have : n / w * w + n % w < t * w + n % w := (ix_lt hnw hnw).mpr (.inl (by omega))
      omega)
    rwa [co_ix row t hnw] at this
  refine ⟨fun z => by rw [z] at hlt; exact absurd hlt (Nat.not_lt_zero _), ?_⟩
  have eq : (row.getD (n % w) []).length - 1 = n / w := by
    generalize (row.getD (n % w) []).length = L at hlt hle
    generalize n / w = q at hlt hle
    omega
  unfold rk
  rw [eq]
  exact en

/-! ### joined sums and rows -/
structure Comb (p : Int) (one two : Poly) (k : Int) (b : Nat) (l : Poly) : Prop where
  can : Canon p l
  len : l.length ≤ max one.length (two.length + b)
  cfs : ∀ t, Cg p (cf l t) (cf one t + k * sh b (cf two) t)
structure CombR (p : Int) (w : Nat) (row other : Row) (k : Int) (b : Nat) (row' : Row) : Prop where
  len : row'.length = w
  at_ : ∀ e, e < w → Comb p (row.getD e []) (other.getD e []) k b (row'.getD e [])
theorem CombR.ok {p : Int} {w : Nat} {row other row' : Row} {k : Int} {b : Nat} (h : CombR p w row other k b row') : RowOk p w row' := ⟨h.len, fun l hl => by
  obtain ⟨e, he, rfl⟩ := List.getElem_of_mem hl
  have := (h.at_ e (h.len ▸ he)).can
  rwa [List.getD_eq_getElem?_getD (l := row'), List.getElem?_eq_getElem he] at this⟩
theorem co_sh {w : Nat} (hw : 0 < w) (row : Row) (b n : Nat) : sh (b * w) (co w row) n = sh b (cf (row.getD (n % w) [])) (n / w) := by
  have hnw : n % w < w := Nat.mod_lt _ hw
  have en : n / w * w + n % w = n := by rw [Nat.mul_comm]; exact Nat.div_add_mod n w
  unfold sh
  by_cases h : n / w < b
  · rw [if_pos h, if_pos]
    have : (n / w + 1) * w ≤ b * w := Nat.mul_le_mul_right w h
    rw [Nat.add_mul] at this
    omega
  · have hb : b * w ≤ n / w * w := Nat.mul_le_mul_right w (by omega)
    rw [if_neg h, if_neg (by omega)]
    have e : n - b * w = (n / w - b) * w + n % w := by
      rw [Nat.sub_mul]
      omega
    rw [e, co_ix row _ hnw]
theorem CombR.cfs {p : Int} {w : Nat} (hw : 0 < w) {row other row' : Row} {k : Int} {b : Nat} (h : CombR p w row other k b row') (n : Nat) : Cg p (co w row' n) (co w row n + k * sh (b * w) (co w other) n) := by
  rw [co_sh hw]
  exact (h.at_ _ (Nat.mod_lt _ hw)).cfs _

/-! ### spans of rows -/
def Sl (p : Int) (w : Nat) (rows : List Row) (f : Fn) : Prop := Sp p w (fun r => ∃ row ∈ rows, r = co w row) f
def Le (p : Int) (w : Nat) (rows rows' : List Row) : Prop := ∀ row ∈ rows, Sl p w rows' (co w row)
def Eqv (p : Int) (w : Nat) (rows rows' : List Row) : Prop := Le p w rows rows' ∧ Le p w rows' rows
section
variable {p : Int} {w : Nat} {a b c rows rows' : List Row} {f : Fn}
theorem Sl.mem {row : Row} (h : row ∈ rows) : Sl p w rows (co w row) := Sp.mem ⟨row, h, rfl⟩
theorem Sl.le (h : Sl p w rows f) (l : Le p w rows rows') : Sl p w rows' f := Sp.bind h fun r ⟨row, hr, e⟩ => by
  subst e
  exact l row hr
theorem Le.refl : Le p w a a := fun _ h => .mem h
theorem Le.of_mem (h : ∀ x ∈ a, x ∈ b) : Le p w a b := fun _ hx => .mem (h _ hx)
theorem Le.trans (h : Le p w a b) (h' : Le p w b c) : Le p w a c := fun x hx => (h x hx).le h'
theorem Eqv.refl : Eqv p w a a := ⟨.refl, .refl⟩
theorem Eqv.symm (h : Eqv p w a b) : Eqv p w b a := ⟨h.2, h.1⟩
theorem Eqv.trans (h : Eqv p w a b) (h' : Eqv p w b c) : Eqv p w a c := ⟨h.1.trans h'.1, h'.2.trans h.2⟩
theorem Eqv.of_mem (h : ∀ x, x ∈ a ↔ x ∈ b) : Eqv p w a b := ⟨.of_mem fun x => (h x).mp, .of_mem fun x => (h x).mpr⟩
theorem Sl.congr {g : Fn} (h : Sl p w rows f) (e : ∀ n, Cg p (g n) (f n)) : Sl p w rows g := Sp.congr h e
theorem Sl.addmul {g r : Fn} (hg : Sl p w rows g) (hr : Sl p w rows r) (k : Int) (b : Nat) (e : ∀ n, Cg p (f n) (g n + k * sh (b * w) r n)) : Sl p w rows f := Sp.addmul hg hr k b e
theorem Sl.add {g h : Fn} (hf : Sl p w rows f) (hg : Sl p w rows g) (e : ∀ n, Cg p (h n) (f n + g n)) : Sl p w rows h := Sp.add hf hg e
/-- a row is replaced by it plus what follows from the others -/
theorem Eqv.repl {row row' : Row} {d : Fn} (hd : Sl p w a d) (e : ∀ n, Cg p (co w row' n) (co w row n + d n)) : Eqv p w (row' :: a) (row :: a) := by
  have sub : ∀ x : Row, Le p w a (x :: a) := fun x => .of_mem fun y hy => List.mem_cons_of_mem _ hy
  refine ⟨fun x hx => ?_, fun x hx => ?_⟩
  · rcases List.mem_cons.mp hx with rfl | hx
    · exact (Sl.mem List.mem_cons_self).add (hd.le (sub row)) e
    · exact .mem (List.mem_cons_of_mem _ hx)
  · rcases List.mem_cons.mp hx with rfl | hx
    · exact (Sl.mem (List.mem_cons_self (a := row') (l := a))).addmul (hd.le (sub row')) (-1) 0 fun n => by
        rw [Nat.zero_mul, sh_zero]
        obtain ⟨c, hc⟩ := e n
        exact ⟨-c, by grind⟩
    · exact .mem (List.mem_cons_of_mem _ hx)
theorem Eqv.zero {row : Row} (z : ∀ n, Cg p (co w row n) 0) : Eqv p w (row :: a) a := by
  refine ⟨fun x hx => ?_, .of_mem fun y hy => List.mem_cons_of_mem _ hy⟩
  rcases List.mem_cons.mp hx with rfl | hx
  · exact .zero z
  · exact .mem hx
theorem Eqv.inSpan {row : Row} (z : Sl p w a (co w row)) : Eqv p w (row :: a) a := by
  refine ⟨fun x hx => ?_, .of_mem fun y hy => List.mem_cons_of_mem _ hy⟩
  rcases List.mem_cons.mp hx with rfl | hx
  · exact z
  · exact .mem hx
theorem Eqv.cons {row : Row} (h : Eqv p w a b) : Eqv p w (row :: a) (row :: b) := by
  have one : ∀ {a b : List Row}, Le p w a b → Le p w (row :: a) (row :: b) := fun {a b} l x hx => by
    rcases List.mem_cons.mp hx with rfl | hx
    · exact .mem List.mem_cons_self
    · exact (l x hx).le (.of_mem fun y hy => List.mem_cons_of_mem _ hy)
  exact ⟨one h.1, one h.2⟩
end

/-! ### the told form is one -/
structure Told (p : Int) (w : Nat) (T : List (Nat × Row)) : Prop where
  ok : ∀ x ∈ T, RowOk p w x.2
  lead : ∀ x ∈ T, Lead p (co w x.2) x.1
  monic : ∀ x ∈ T, Cg p (co w x.2 x.1) 1
  red : ∀ x ∈ T, ∀ y ∈ T, x.1 % w ≠ y.1 % w → ∀ m, y.1 ≤ m → m % w = y.1 % w → Cg p (co w x.2 m) 0
  sorted : T.Pairwise fun x y => x.1 % w < y.1 % w
abbrev rowsOf (T : List (Nat × Row)) : List Row := T.map (·.2)
theorem pairwise_inj {α : Type} {k : α → Nat} : ∀ {l : List α}, l.Pairwise (fun x y => k x < k y) → ∀ x ∈ l, ∀ y ∈ l, k x = k y → x = y
  | [], _, x, hx, _, _, _ => nomatch hx
  | a :: r, h, x, hx, y, hy, e => by
    have h' := List.pairwise_cons.mp h
    rcases List.mem_cons.mp hx with q | hx
    · rcases List.mem_cons.mp hy with q' | hy
      · rw [q, q']
      · have := h'.1 y hy
        rw [q] at e
        omega
    · rcases List.mem_cons.mp hy with q' | hy
      · have := h'.1 x hx
        rw [q'] at e
        omega
      · exact pairwise_inj h'.2 x hx y hy e
theorem sorted_ext {α : Type} {k : α → Nat} : ∀ {l l' : List α}, l.Pairwise (fun x y => k x < k y) → l'.Pairwise (fun x y => k x < k y) → (∀ x, x ∈ l ↔ x ∈ l') → l = l'
  | [], [], _, _, _ => rfl
  | [], b :: s, _, _, m => absurd ((m b).mpr List.mem_cons_self) (by intro h; nomatch h)
  | a :: r, [], _, _, m => absurd ((m a).mp List.mem_cons_self) (by intro h; nomatch h)
  | a :: r, b :: s, h, h', m => by
    have h1 := List.pairwise_cons.mp h
    have h2 := List.pairwise_cons.mp h'
    have e : a = b := by
      rcases List.mem_cons.mp ((m a).mp List.mem_cons_self) with e | ha
      · exact e
      · rcases List.mem_cons.mp ((m b).mpr List.mem_cons_self) with e | hb
        · exact e.symm
        · have := h1.1 b hb
          have := h2.1 a ha
          omega
    subst e
    refine congrArg _ (sorted_ext h1.2 h2.2 fun x => ⟨fun hx => ?_, fun hx => ?_⟩)
    · rcases List.mem_cons.mp ((m x).mp (List.mem_cons_of_mem _ hx)) with rfl | q
      · have := h1.1 x hx
        omega
      · exact q
    · rcases List.mem_cons.mp ((m x).mpr (List.mem_cons_of_mem _ hx)) with rfl | q
      · have := h2.1 x hx
        omega
      · exact q
section
variable {p : Int} {w : Nat} {T T' : List (Nat × Row)}
theorem Told.div (hp : p ∈ PRIMES) (hw : 0 < w) (h : Told p w T) {f : Fn} (hf : Sl p w (rowsOf T) f) {m : Nat} (l : Lead p f m) : ∃ y ∈ T, y.1 ≤ m ∧ y.1 % w = m % w := by
  obtain ⟨r, n, ⟨row, hrow, rfl⟩, hl, hn, hm⟩ := Sp.lead hp (R := fun r => ∃ row ∈ rowsOf T, r = co w row) (fun r r' n n' ⟨a, ha, ea⟩ ⟨b, hb, eb⟩ l1 l2 e => by
    subst ea eb
    obtain ⟨x, hx, rfl⟩ := List.mem_map.mp ha
    obtain ⟨y, hy, rfl⟩ := List.mem_map.mp hb
    have e1 := (h.lead x hx).uniq l1
    have e2 := (h.lead y hy).uniq l2
    have := pairwise_inj h.sorted x hx y hy (by rw [e1, e2]; exact e)
    rw [this]) (fun r ⟨a, ha, ea⟩ => by
    subst ea
    obtain ⟨x, hx, rfl⟩ := List.mem_map.mp ha
    exact ⟨_, h.lead x hx⟩) hw hf l
  obtain ⟨x, hx, rfl⟩ := List.mem_map.mp hrow
  have e := (h.lead x hx).uniq hl
  exact ⟨x, hx, by omega, by rw [e]; exact hm⟩
theorem Told.sub (hp : p ∈ PRIMES) (hw : 0 < w) (h : Told p w T) (h' : Told p w T') (e : Eqv p w (rowsOf T) (rowsOf T')) : ∀ x ∈ T, x ∈ T' := fun x hx => by
  have pp : 0 < p := by have := (prime_pos hp).1; omega
  obtain ⟨y, hy, y1, y2⟩ := h'.div hp hw (e.1 _ (List.mem_map.mpr ⟨x, hx, rfl⟩)) (h.lead x hx)
  obtain ⟨z, hz, z1, z2⟩ := h.div hp hw (e.2 _ (List.mem_map.mpr ⟨y, hy, rfl⟩)) (h'.lead y hy)
  have ez : z = x := pairwise_inj h.sorted z hz x hx (by omega)
  subst ez
  have en : y.1 = z.1 := by omega
  have eq : ∀ n, Cg p (co w z.2 n) (co w y.2 n) := by
    -- the difference has no lead
    let d : Fn := fun n => co w z.2 n + (-1) * sh (0 * w) (co w y.2) n
    have hd : Sl p w (rowsOf T) d := Sl.addmul (.mem (List.mem_map.mpr ⟨z, hx, rfl⟩)) (e.2 _ (List.mem_map.mpr ⟨y, hy, rfl⟩)) (-1) 0 fun n => .refl _ _
    have dv : ∀ n, d n = co w z.2 n - co w y.2 n := fun n => by
      show co w z.2 n + (-1) * sh (0 * w) (co w y.2) n = _
      rw [Nat.zero_mul, sh_zero]
      omega
    have top : ∀ n, z.1 ≤ n → Cg p (d n) 0 := fun n hn => by
      rw [dv]
      by_cases q : n = z.1
      · rw [q]
        obtain ⟨a, ha⟩ := h.monic z hx
        obtain ⟨b, hb⟩ := h'.monic y hy
        rw [en] at hb
        exact ⟨a - b, by grind⟩
      · obtain ⟨a, ha⟩ := (h.lead z hx).2 n (by omega)
        obtain ⟨b, hb⟩ := (h'.lead y hy).2 n (by omega)
        exact ⟨a - b, by grind⟩
    rcases lead_or z.1 top with q | ⟨m, hm, l⟩
    · intro n
      have := q n
      rw [dv] at this
      obtain ⟨c, hc⟩ := this
      exact ⟨c, by grind⟩
    · exfalso
      obtain ⟨u, hu, u1, u2⟩ := h.div hp hw hd l
      have nu : z.1 % w ≠ u.1 % w := fun q => by
        have := pairwise_inj h.sorted z hx u hu q
        subst this
        omega
      obtain ⟨v, hv, v1, v2⟩ := h'.div hp hw (e.1 _ (List.mem_map.mpr ⟨u, hu, rfl⟩)) (h.lead u hu)
      refine l.1 ?_
      rw [dv]
      obtain ⟨a, ha⟩ := h.red z hx u hu nu m u1 u2.symm
      obtain ⟨b, hb⟩ := h'.red y hy v hv (by omega) m (by omega) (by omega)
      exact ⟨a - b, by grind⟩
  have er := row_ext pp (h.ok z hx) (h'.ok y hy) eq
  have : z = y := Prod.ext en.symm er
  rw [this]
  exact hy
/-- one set of rows has one told form -/
theorem Told.one (hp : p ∈ PRIMES) (hw : 0 < w) (h : Told p w T) (h' : Told p w T') (e : Eqv p w (rowsOf T) (rowsOf T')) : T = T' :=
  sorted_ext (k := fun x => x.1 % w) h.sorted h'.sorted fun x => ⟨h.sub hp hw h' e x, h'.sub hp hw h e.symm x⟩
end
end K8

set_option Elab.async false
set_option linter.all false
set_option maxRecDepth 100000
set_option maxHeartbeats 4000000
namespace K8
open PySem PySem.Spec PyProof.Rows L2
/-! ### the text by places -/
def topS (i : Nat) : Stmt := PySem.Challenge.pw_lagworks_k08_whole_one_told_form.main.body.getD i (.Pass ⟨0, 0, 0, 0⟩)
/-- a def of the text -/
def IsDef (K : PySem.W.Frag) (mg : Str → Option Value) (x : Str) (st : Stmt) (ps : List Str) : Prop := ∃ f fd, Fun K x x st f fd ∧ mg x = some (.ref f) ∧ Binds K fd ps []
/-- a def that keeps its promise and may be called by its name -/
def Ok (P : Program) (w : World) (K : PySem.W.Frag) (mg : Str → Option Value) (base : Heap) (k : Nat) (x : Str) (ps : List Str) (sp : L2.Sp) : Prop :=
  ∃ f fd, FnOk P w K mg base CX0 k f fd ps sp ∧ mg x = some (.ref f) ∧ PySem.W.keepIn K (.ref f) = true ∧ Binds K fd ps []
structure Blt (mg : Str → Option Value) : Prop where
  len : mg "len" = none
  range : mg "range" = none
  zip : mg "zip" = none
  enumerate : mg "enumerate" = none
  tuple : mg "tuple" = none
  list : mg "list" = none
  all : mg "all" = none
  any : mg "any" = none
  sorted : mg "sorted" = none
  isinstance : mg "isinstance" = none
  max : mg "max" = none
  min : mg "min" = none
  int : mg "int" = none
  bool : mg "bool" = none
section
variable {P : Program} {w : World} {K : PySem.W.Frag} {mg : Str → Option Value} {base : Heap}
theorem IsDef.ok {x : Str} {st : Stmt} {N ps : List Str} {k : Nat} {sp : L2.Sp} (D : IsDef K mg x st ps) (S : FnScope N ps (defScope st)) (len : ∀ vs H Q E, sp vs H Q E → vs.length = ps.length)
    (hbody : ∀ (f : Addr) (cdv : Value) (A : Around) (outer : List Env) (s : Shared) (H : Hp) (vs : List V) (Q : VK) (E : XK), Room k (A.deeper (envOfC x (defScope st) s.heap.objs.size f cdv)) → sp vs H Q E →
      ∃ t, PSs (cxOf CX0 P w K mg base N x (defScope st) f cdv A outer s H E).nox (defBody st) t ∧ t { nx := fun _ H' => Q .non H', rt := Q } (start N vs) H) : Ok P w K mg base (k + 1) x ps sp := by
  obtain ⟨f, fd, F, g, b⟩ := D
  exact ⟨f, fd, F.ok S len (fun cdv A outer s H vs Q E => hbody f cdv A outer s H vs Q E), g, F.kp, b⟩
theorem Ok.mono {x : Str} {ps : List Str} {j k : Nat} {sp : L2.Sp} (C : Ok P w K mg base j x ps sp) (h : j ≤ k) : Ok P w K mg base k x ps sp := by
  obtain ⟨f, fd, F, g, kp, b⟩ := C
  exact ⟨f, fd, F.mono h, g, kp, b⟩
end
section
variable {X : Cx} {k : Nat} {ps : List Str} {sp : L2.Sp} {x : Str} {p pos : Pos} {e : Expr} {es : List Expr} {t : TA}
theorem pe_c (C : Ok X.prog X.w X.K X.mg X.base k x ps sp) (hr : Room k X.A) (hg : Gl X x) (ha : PA X (e :: es) t) (hdb : (x == ("__debug__" : Str)) = false := by decide)
    (he : starEach (e :: es) X.env = (false, eval e X.env) :: starEach es X.env := by rfl) (hpl : (backTo pos (starEach es X.env)).any (·.1) = false := by rfl) :
    PE X (.Call (.Name x p) (e :: es) [] pos) (tCall sp [] E0 t) := by
  obtain ⟨f, fd, F, g, kp, b⟩ := C
  exact pe_call F hr hg g kp b .nil pass0 ha hdb he hpl
theorem pe_c0 (C : Ok X.prog X.w X.K X.mg X.base k x ps sp) (hr : Room k X.A) (hg : Gl X x) (hdb : (x == ("__debug__" : Str)) = false := by decide) : PE X (.Call (.Name x p) [] [] pos) (tCall sp [] E0 tNil) := by
  obtain ⟨f, fd, F, g, kp, b⟩ := C
  exact pe_call0 F hr hg g kp b .nil pass0 hdb
end
/-! ### lists beside lists -/
def All2 {α β : Type} (R : α → β → Prop) : List α → List β → Prop
  | [], [] => True
  | a :: as, b :: bs => R a b ∧ All2 R as bs
  | _, _ => False
section
variable {α β γ : Type} {R R' : α → β → Prop}
theorem All2.len : ∀ {as : List α} {bs : List β}, All2 R as bs → as.length = bs.length
  | [], [], _ => rfl
  | _ :: _, _ :: _, h => congrArg (· + 1) (All2.len h.2)
  | [], _ :: _, h => h.elim
  | _ :: _, [], h => h.elim
theorem All2.mono (f : ∀ a b, R a b → R' a b) : ∀ {as : List α} {bs : List β}, All2 R as bs → All2 R' as bs
  | [], [], _ => trivial
  | _ :: _, _ :: _, h => ⟨f _ _ h.1, All2.mono f h.2⟩
  | [], _ :: _, h => h.elim
  | _ :: _, [], h => h.elim
theorem All2.get : ∀ {as : List α} {bs : List β} {i : Nat} {a : α}, All2 R as bs → as[i]? = some a → ∃ b, bs[i]? = some b ∧ R a b
  | [], _, _, _, _, e => by simp at e
  | _ :: _, [], _, _, h, _ => h.elim
  | a :: as, b :: bs, 0, x, h, e => by
    simp at e
    subst e
    exact ⟨b, rfl, h.1⟩
  | a :: as, b :: bs, i + 1, x, h, e => by
    obtain ⟨y, e1, r⟩ := All2.get (i := i) (a := x) h.2 (by simpa using e)
    exact ⟨y, by simpa using e1, r⟩
theorem All2.get2 : ∀ {as : List α} {bs : List β} {i : Nat} {b : β}, All2 R as bs → bs[i]? = some b → ∃ a, as[i]? = some a ∧ R a b
  | [], [], _, _, _, e => by simp at e
  | _ :: _, [], _, _, h, _ => h.elim
  | [], _ :: _, _, _, h, _ => h.elim
  | a :: as, b :: bs, 0, x, h, e => by
    simp at e
    subst e
    exact ⟨a, rfl, h.1⟩
  | a :: as, b :: bs, i + 1, x, h, e => by
    obtain ⟨y, e1, r⟩ := All2.get2 (i := i) (b := x) h.2 (by simpa using e)
    exact ⟨y, by simpa using e1, r⟩
theorem All2.app : ∀ {as : List α} {bs : List β} {cs : List α} {ds : List β}, All2 R as bs → All2 R cs ds → All2 R (as ++ cs) (bs ++ ds)
  | [], [], _, _, _, h => h
  | _ :: _, _ :: _, _, _, h, h' => ⟨h.1, All2.app h.2 h'⟩
  | [], _ :: _, _, _, h, _ => h.elim
  | _ :: _, [], _, _, h, _ => h.elim
theorem All2.snoc {as : List α} {bs : List β} {a : α} {b : β} (h : All2 R as bs) (r : R a b) : All2 R (as ++ [a]) (bs ++ [b]) := h.app ⟨r, trivial⟩
theorem All2.set : ∀ {as : List α} {bs : List β} {a : α} {b : β} (i : Nat), All2 R as bs → R a b → All2 R (as.set i a) (bs.set i b)
  | [], [], _, _, _, _, _ => trivial
  | _ :: _, _ :: _, _, _, 0, h, r => ⟨r, h.2⟩
  | _ :: _, _ :: _, _, _, i + 1, h, r => ⟨h.1, All2.set i h.2 r⟩
  | [], _ :: _, _, _, _, h, _ => h.elim
  | _ :: _, [], _, _, _, h, _ => h.elim
theorem All2.take : ∀ {as : List α} {bs : List β} (n : Nat), All2 R as bs → All2 R (as.take n) (bs.take n)
  | _, _, 0, _ => trivial
  | [], [], _ + 1, _ => trivial
  | _ :: _, _ :: _, n + 1, h => ⟨h.1, All2.take n h.2⟩
  | [], _ :: _, _, h => h.elim
  | _ :: _, [], _, h => h.elim
theorem All2.drop : ∀ {as : List α} {bs : List β} (n : Nat), All2 R as bs → All2 R (as.drop n) (bs.drop n)
  | _, _, 0, h => h
  | [], [], _ + 1, _ => trivial
  | _ :: _, _ :: _, n + 1, h => All2.drop n h.2
  | [], _ :: _, _, h => h.elim
  | _ :: _, [], _, h => h.elim
end
/-! ### data on the heap -/
/-- the tuples stand -/
def Keeps (H H' : Hp) : Prop := ∀ a xs, H a = some (.tup xs) → H' a = some (.tup xs)
theorem Keeps.refl (H : Hp) : Keeps H H := fun _ _ h => h
theorem Keeps.trans {H H1 H2 : Hp} (a : Keeps H H1) (b : Keeps H1 H2) : Keeps H H2 := fun c o h => b c o (a c o h)
theorem Keeps.of {H H' : Hp} (h : Same H H') : Keeps H H' := fun a xs e => h a _ e
theorem same_new {H : Hp} {p : Addr} {o : HO} (h : H p = none) : Same H (upd H p o) := fun b x e => by
  rw [upd_ne (ne_of_none e h)]
  exact e
theorem keeps_new {H : Hp} {p : Addr} {o : HO} (h : H p = none) : Keeps H (upd H p o) := .of (same_new h)
/-- a list is written -/
theorem keeps_lst {H : Hp} {p : Addr} {xs : List V} {o : HO} (h : H p = some (.lst xs)) : Keeps H (upd H p o) := fun a ys e => by
  rw [upd_ne (ne_of e h (by intro z; cases z))]
  exact e
theorem keeps_dk {H : Hp} {p : Addr} {xs : List (Key × V)} {o : HO} (h : H p = some (.dK xs)) : Keeps H (upd H p o) := fun a ys e => by
  rw [upd_ne (ne_of e h (by intro z; cases z))]
  exact e
/-- a new object, then it is written -/
theorem same_upd2 {H H' : Hp} {p : Addr} {o : HO} (h : H p = none) (s : Same H H') : Same H (upd H' p o) := fun b x e => by
  rw [upd_ne (ne_of_none e h)]
  exact s b x e
def PolyAt (H : Hp) (v : V) (l : Poly) : Prop := ∃ a, v = .ref a ∧ H a = some (.tup (l.map V.int))
def RowAt (H : Hp) (v : V) (row : Row) : Prop := ∃ a vs, v = .ref a ∧ H a = some (.tup vs) ∧ All2 (PolyAt H) vs row
theorem PolyAt.keep {H H' : Hp} {v : V} {l : Poly} (h : PolyAt H v l) (k : Keeps H H') : PolyAt H' v l := let ⟨a, e, q⟩ := h; ⟨a, e, k _ _ q⟩
theorem RowAt.keep {H H' : Hp} {v : V} {row : Row} (h : RowAt H v row) (k : Keeps H H') : RowAt H' v row := let ⟨a, vs, e, q, r⟩ := h; ⟨a, vs, e, k _ _ q, r.mono fun _ _ x => x.keep k⟩
theorem ints_get {l : List Int} {i : Nat} {x : V} (h : (l.map V.int)[i]? = some x) : ∃ z, x = .int z ∧ l[i]? = some z := by
  rw [List.getElem?_map] at h
  cases e : l[i]? with
  | none => rw [e] at h; cases h
  | some z => rw [e] at h; exact ⟨z, (Option.some.inj h).symm, rfl⟩
theorem ints_at {l : List Int} {i : Nat} {z : Int} (h : l[i]? = some z) : (l.map V.int)[i]? = some (.int z) := by rw [List.getElem?_map, h]; rfl
theorem bls_snoc (l : List Bool) (b : Bool) : (l.map V.bl) ++ [.bl b] = (l ++ [b]).map V.bl := by simp
theorem ints_snoc (l : List Int) (b : Int) : (l.map V.int) ++ [.int b] = (l ++ [b]).map V.int := by simp
end K8

set_option Elab.async false
set_option linter.all false
set_option maxRecDepth 100000
set_option maxHeartbeats 4000000
namespace K8
open PySem PySem.Spec PyProof.Rows L2
abbrev sWhole : Stmt := topS 8
abbrev sPrime : Stmt := topS 9
abbrev sNeedP : Stmt := topS 10
abbrev sResidue : Stmt := topS 11
abbrev sUndone : Stmt := topS 12
section
variable {P : Program} {w : World} {K : PySem.W.Frag} {mg : Str → Option Value} {base : Heap}
theorem scWhole : FnScope ["thing"] ["thing"] (defScope sWhole) := ⟨rfl, rfl, rfl, by decide +kernel, rfl, by decide +kernel, by decide +kernel⟩
def spWhole : L2.Sp := fun vs H Q _ => ∃ i : Int, vs = [.int i] ∧ Q (.bl true) H
theorem ok_whole (D : IsDef K mg "is_whole" sWhole ["thing"]) (T : Blt mg) : Ok P w K mg base 1 "is_whole" ["thing"] spWhole := by
  refine D.ok scWhole (fun vs H Q E h => ?_) (fun f cdv A outer s H vs Q E hr h => ?_)
  · obtain ⟨i, rfl, _⟩ := h
    rfl
  · obtain ⟨i, rfl, q⟩ := h
    refine ⟨_, pss_one (ps_ret (pe_and (pe_callB call_isi (by rfl) T.isinstance (by decide +kernel) (pa_cons (pv 0) (pa_cons (pe_bltn (v := .ty "int") (by rfl) T.int (by decide +kernel) rfl) pa_nil)))
      (pe_one (pe_not (pe_callB call_isi (by rfl) T.isinstance (by decide +kernel) (pa_cons (pv 0) (pa_cons (pe_bltn (v := .ty "bool") (by rfl) T.bool (by decide +kernel) rfl) pa_nil))))))), ?_⟩
    refine ⟨_, rfl, _, _, _, _, true, rfl, .ty "int", .base (.int i), kit_ty (by decide +kernel), ?_⟩
    refine ⟨true, rfl, iteT ?_⟩
    refine ⟨_, rfl, _, _, _, _, false, rfl, .ty "bool", .base (.int i), kit_ty (by decide +kernel), ?_⟩
    exact ⟨false, rfl, q⟩
theorem scPrime : FnScope ["number"] ["number"] (defScope sPrime) := ⟨rfl, rfl, rfl, by decide +kernel, rfl, by decide +kernel, by decide +kernel⟩
def spPrime : L2.Sp := fun vs H Q _ => ∃ p : Int, vs = [.int p] ∧ p ∈ PRIMES ∧ Q (.bl true) H
/-- the module's tuple of primes -/
def PrimesAt (K : PySem.W.Frag) (mg : Str → Option Value) : Prop := ∃ a, mg "PRIMES" = some (.ref a) ∧ ∀ H : Hp, SqT K H a (PRIMES.map V.int)
theorem inV_int {p : Int} : ∀ {l : List Int}, p ∈ l → inV (.int p) (l.map V.int) = true
  | [], h => nomatch h
  | x :: r, h => by
    show (eqV (.int x) (.int p) || inV (.int p) (r.map V.int)) = true
    rcases List.mem_cons.mp h with e | h
    · subst e
      have : eqV (.int p) (.int p) = true := by simp [eqV]
      rw [this]
      rfl
    · rw [inV_int h, Bool.or_true]
theorem flat_ints : ∀ l : List Int, (l.map V.int).all flatV = true
  | [] => rfl
  | x :: r => by
    rw [List.map_cons, List.all_cons, flat_ints r]
    rfl
theorem ok_prime (D : IsDef K mg "is_prime" sPrime ["number"]) (G : PrimesAt K mg) (C : Ok P w K mg base 1 "is_whole" ["thing"] spWhole) : Ok P w K mg base 2 "is_prime" ["number"] spPrime := by
  obtain ⟨a, ga, ht⟩ := G
  refine D.ok scPrime (fun vs H Q E h => ?_) (fun f cdv A outer s H vs Q E hr h => ?_)
  · obtain ⟨i, rfl, _⟩ := h
    rfl
  · obtain ⟨p, rfl, hp, q⟩ := h
    refine ⟨_, pss_one (ps_ret (pe_and (pe_c C hr (by rfl) (pa_cons (pv 0) pa_nil)) (pe_one (pe_cmpR op_in_seq (pv 0) (pe_glob (v := .ref a) (by rfl) ga rfl) (by rfl))))), ?_⟩
    refine ⟨_, rfl, p, rfl, true, rfl, iteT ?_⟩
    refine ⟨_, rfl, a, _, rfl, .inr (ht _), rfl, flat_ints _, ?_⟩
    rw [inV_int hp]
    exact q
theorem scNeedP : FnScope ["prime"] ["prime"] (defScope sNeedP) := ⟨rfl, rfl, rfl, by decide +kernel, rfl, by decide +kernel, by decide +kernel⟩
def spNeedP : L2.Sp := fun vs H Q _ => ∃ p : Int, vs = [.int p] ∧ p ∈ PRIMES ∧ Q .non H
theorem ok_needp (D : IsDef K mg "need_prime" sNeedP ["prime"]) (C : Ok P w K mg base 2 "is_prime" ["number"] spPrime) : Ok P w K mg base 3 "need_prime" ["prime"] spNeedP := by
  refine D.ok scNeedP (fun vs H Q E h => ?_) (fun f cdv A outer s H vs Q E hr h => ?_)
  · obtain ⟨i, rfl, _⟩ := h
    rfl
  · obtain ⟨p, rfl, hp, q⟩ := h
    refine ⟨_, pss_one (ps_if (pt_not (pt_val (pe_c C hr (by rfl) (pa_cons (pv 0) pa_nil)))) (pss_one ps_never) pss_nil), ?_⟩
    exact ⟨_, rfl, p, rfl, hp, true, rfl, iteF q⟩
theorem scResidue : FnScope ["thing", "prime"] ["thing", "prime"] (defScope sResidue) := ⟨rfl, rfl, rfl, by decide +kernel, rfl, by decide +kernel, by decide +kernel⟩
def spResidue : L2.Sp := fun vs H Q _ => ∃ i p : Int, vs = [.int i, .int p] ∧ 0 ≤ i ∧ i < p ∧ Q (.bl true) H
theorem ok_residue (D : IsDef K mg "is_residue" sResidue ["thing", "prime"]) (C : Ok P w K mg base 1 "is_whole" ["thing"] spWhole) : Ok P w K mg base 2 "is_residue" ["thing", "prime"] spResidue := by
  refine D.ok scResidue (fun vs H Q E h => ?_) (fun f cdv A outer s H vs Q E hr h => ?_)
  · obtain ⟨i, p, rfl, _⟩ := h
    rfl
  · obtain ⟨i, p, rfl, h0, h1, q⟩ := h
    refine ⟨_, pss_one (ps_ret (pe_and (pe_c C hr (by rfl) (pa_cons (pv 0) pa_nil)) (pe_one (pe_chain op_le op_lt pe_int (pv 0) (pv 1))))), ?_⟩
    refine ⟨_, rfl, i, rfl, true, rfl, iteT ?_⟩
    refine ⟨_, rfl, _, _, rfl, rfl, true, ?_, ?_⟩
    · show V.bl (decide (0 ≤ i)) = _
      rw [decide_eq_true h0]
    · refine iteT ⟨_, rfl, _, _, rfl, rfl, ?_⟩
      show Q (V.bl (decide (i < p))) H
      rw [decide_eq_true h1]
      exact q
theorem scUndone : FnScope ["number", "prime", "found", "turn"] ["number", "prime"] (defScope sUndone) := ⟨rfl, rfl, rfl, by decide +kernel, rfl, by decide +kernel, by decide +kernel⟩
def spUndone : L2.Sp := fun vs H Q _ => ∃ n p : Int, vs = [.int n, .int p] ∧ p ∈ PRIMES ∧ Q (.int (und n p)) H
theorem ok_undone (D : IsDef K mg "undone" sUndone ["number", "prime"]) (T : Blt mg) : Ok P w K mg base 1 "undone" ["number", "prime"] spUndone := by
  refine D.ok scUndone (fun vs H Q E h => ?_) (fun f cdv A outer s H vs Q E hr h => ?_)
  · obtain ⟨i, p, rfl, _⟩ := h
    rfl
  · obtain ⟨n, p, rfl, hp, q⟩ := h
    have p2 := prime_pos hp
    refine ⟨_, pss_cons (ps_set (i := 2) scUndone.nd rfl (.inl rfl) pe_int)
      (pss_cons (ps_for PassesOwn.never rfl (pi_range1 rfl T.range (pa_cons (pe_op op_sub (pv 1) pe_int) pa_nil)) (pg_name (i := 3) scUndone.nd rfl (.inl rfl))
        (pss_one (ps_set (i := 2) scUndone.nd rfl (.inl rfl) (pe_op op_mod (pe_op op_mul (pv 2) (pv 0)) (pv 1)))))
      (pss_one (ps_ret (pv 2)))), ?_⟩
    refine ⟨_, rfl, _, _, rfl, rfl, p - 2, rfl, by omega, by omega, ?_⟩
    refine for_range (lo := 0) (n := (p - 2).toNat) (fun i σ H' => H' = H ∧ ∃ v, σ = [some (.int n), some (.int p), some (.int (powI n p i)), v]) ⟨rfl, none, rfl⟩ ?_ ?_
    · rintro i σ H' hi ⟨rfl, v, rfl⟩
      have r := powI_range (n := n) p2.1 i
      exact ⟨_, rfl, _, rfl, _, _, rfl, rfl, .inl ⟨by omega, by omega⟩, _, rfl, _, _, rfl, rfl, (by omega), rfl, _, rfl⟩
    · rintro σ H' ⟨rfl, v, rfl⟩
      exact ⟨_, rfl, q⟩
end
end K8

set_option Elab.async false
set_option linter.all false
set_option maxRecDepth 100000
set_option maxHeartbeats 4000000
namespace K8
open PySem PySem.Spec PyProof.Rows L2
/-! ### the data as Python's comparison sees it -/
def polyD (l : Poly) : PyData := .tuple (l.map PyData.int)
def rowD (r : Row) : PyData := .tuple (r.map polyD)
def rowsD (rs : List Row) : PyData := .list (rs.map rowD)
theorem eqvAll_map {α : Type} [DecidableEq α] {f : α → PyData} (h : ∀ x y, PyData.eqv (f x) (f y) = decide (x = y)) : ∀ xs ys : List α, PyData.eqvAll (xs.map f) (ys.map f) = decide (xs = ys)
  | [], [] => rfl
  | [], _ :: _ => by simp [PyData.eqvAll]
  | _ :: _, [] => by simp [PyData.eqvAll]
  | x :: xs, y :: ys => by
    simp only [List.map_cons, PyData.eqvAll, h, eqvAll_map h xs ys]
    by_cases e : x = y <;> by_cases e' : xs = ys <;> simp [e, e']
theorem polyD_eqv (a b : Poly) : PyData.eqv (polyD a) (polyD b) = decide (a = b) := by
  unfold polyD
  simp only [PyData.eqv]
  exact eqvAll_map (fun x y => by simp only [PyData.eqv]; exact Bool.beq_eq_decide_eq x y) a b
theorem rowD_eqv (a b : Row) : PyData.eqv (rowD a) (rowD b) = decide (a = b) := by
  unfold rowD
  simp only [PyData.eqv]
  exact eqvAll_map polyD_eqv a b
theorem rowsD_eqv (a b : List Row) : PyData.eqv (rowsD a) (rowsD b) = decide (a = b) := by
  unfold rowsD
  simp only [PyData.eqv]
  exact eqvAll_map rowD_eqv a b
theorem layAll_map {α : Type} {f : α → PyData} (h : ∀ x, PyData.canLay0 (f x) = true) : ∀ xs : List α, PyData.canLayAll0 (xs.map f) = true
  | [] => by simp [PyData.canLayAll0]
  | x :: xs => by simp [PyData.canLayAll0, h x, layAll_map h xs]
theorem depthAll_map {α : Type} {f : α → PyData} {n : Nat} (h : ∀ x, PyData.depth (f x) ≤ n) : ∀ xs : List α, PyData.depthAll (xs.map f) ≤ n
  | [] => by simp [PyData.depthAll]
  | x :: xs => by
    have := h x
    have := depthAll_map h xs
    simp only [List.map_cons, PyData.depthAll]
    omega
theorem polyD_lay (a : Poly) : PyData.canLay0 (polyD a) = true := by
  unfold polyD
  simp only [PyData.canLay0]
  exact layAll_map (fun x => by simp [PyData.canLay0]) a
theorem polyD_depth (a : Poly) : PyData.depth (polyD a) ≤ 1 := by
  unfold polyD
  have := depthAll_map (f := PyData.int) (n := 0) (fun x => by simp [PyData.depth]) a
  simp only [PyData.depth]
  omega
theorem rowD_lay (a : Row) : PyData.canLay0 (rowD a) = true := by
  unfold rowD
  simp only [PyData.canLay0]
  exact layAll_map polyD_lay a
theorem rowD_depth (a : Row) : PyData.depth (rowD a) ≤ 2 := by
  unfold rowD
  have := depthAll_map polyD_depth a
  simp only [PyData.depth]
  omega
theorem rowsD_lay (a : List Row) : PyData.canLay0 (rowsD a) = true := by
  unfold rowsD
  simp only [PyData.canLay0]
  exact layAll_map rowD_lay a
theorem rowsD_depth (a : List Row) : PyData.depth (rowsD a) ≤ 3 := by
  unfold rowsD
  have := depthAll_map rowD_depth a
  simp only [PyData.depth]
  omega
theorem shaped_of {d : PyData} (h : PyData.canLay0 d = true) (h' : PyData.depth d ≤ 64) : SeqAt.shaped d = true := by
  show (d.canLay0 && decide (d.depth ≤ 64)) = true
  rw [h, decide_eq_true h']
  rfl
theorem polyD_sh (a : Poly) : SeqAt.shaped (polyD a) = true := shaped_of (polyD_lay a) (by have := polyD_depth a; omega)
theorem rowsD_sh (a : List Row) : SeqAt.shaped (rowsD a) = true := shaped_of (rowsD_lay a) (by have := rowsD_depth a; omega)
theorem dpAll_ints {K : PySem.W.Frag} {H : Hp} : ∀ l : List Int, DpAll K H (l.map V.int) (l.map PyData.int)
  | [] => .nil
  | x :: r => .cons (.int x) (dpAll_ints r)
theorem PolyAt.dp {K : PySem.W.Frag} {H : Hp} {v : V} {l : Poly} (h : PolyAt H v l) : Dp K H v (polyD l) := by
  obtain ⟨a, rfl, q⟩ := h
  exact .tup (SqT.of q) (dpAll_ints l)
theorem dpAll_of {α : Type} {K : PySem.W.Frag} {H : Hp} {R : V → α → Prop} {f : α → PyData} (h : ∀ v x, R v x → Dp K H v (f x)) : ∀ {vs : List V} {xs : List α}, All2 R vs xs → DpAll K H vs (xs.map f)
  | [], [], _ => .nil
  | _ :: _, _ :: _, r => .cons (h _ _ r.1) (dpAll_of h r.2)
  | [], _ :: _, r => r.elim
  | _ :: _, [], r => r.elim
theorem RowAt.dp {K : PySem.W.Frag} {H : Hp} {v : V} {r : Row} (h : RowAt H v r) : Dp K H v (rowD r) := by
  obtain ⟨a, vs, rfl, q, z⟩ := h
  exact .tup (SqT.of q) (dpAll_of (fun _ _ x => PolyAt.dp x) z)
theorem rows_dp {K : PySem.W.Frag} {H : Hp} {a : Addr} {vs : List V} {rs : List Row} (h : SqL K H a vs) (z : All2 (RowAt H) vs rs) : Dp K H (.ref a) (rowsD rs) := .lst h (dpAll_of (fun _ _ x => RowAt.dp x) z)

abbrev sIsSum : Stmt := topS 15
abbrev sCut : Stmt := topS 16
abbrev sJoined : Stmt := topS 17
abbrev sPlain : Stmt := topS 19
abbrev sRank : Stmt := topS 20
/-- a module's number -/
def NumAt (mg : Str → Option Value) (x : Str) (i : Int) : Prop := ∃ t, mg x = some (.int i t)
section
variable {P : Program} {w : World} {K : PySem.W.Frag} {mg : Str → Option Value} {base : Heap}
theorem scIsSum : FnScope ["thing", "prime", "one"] ["thing", "prime"] (defScope sIsSum) := ⟨rfl, rfl, rfl, by decide +kernel, rfl, by decide +kernel, by decide +kernel⟩
def spIsSum : L2.Sp := fun vs H Q _ => ∃ (v : V) (p : Int) (l : Poly), vs = [v, .int p] ∧ PolyAt H v l ∧ Canon p l ∧ l.length ≤ 12 ∧ ∀ H', Same H H' → Q (.bl true) H'
theorem all_trues (n : Nat) : (List.replicate n true).all id = true := by
  induction n with
  | zero => rfl
  | succ n ih => rw [List.replicate_succ, List.all_cons, ih]; rfl
theorem trues_snoc (n : Nat) : ((List.replicate n true).map V.bl) ++ [.bl true] = (List.replicate (n + 1) true).map V.bl := by
  rw [bls_snoc, List.replicate_succ']
theorem ok_issum (D : IsDef K mg "is_sum" sIsSum ["thing", "prime"]) (T : Blt mg) (M : NumAt mg "MOST_PLACES" 12) (C : Ok P w K mg base 2 "is_residue" ["thing", "prime"] spResidue) : Ok P w K mg base 3 "is_sum" ["thing", "prime"] spIsSum := by
  obtain ⟨t, gM⟩ := M
  refine D.ok scIsSum (fun vs H Q E h => ?_) (fun f cdv A outer s H vs Q E hr h => ?_)
  · obtain ⟨v, p, l, rfl, _⟩ := h
    rfl
  · obtain ⟨v, p, l, rfl, ⟨a, rfl, ha⟩, hc, hl, q⟩ := h
    refine ⟨_, pss_cons (ps_if (PW.pt (pw_or (pt_not (pt_val (pe_callB call_isi (by rfl) T.isinstance (by decide +kernel) (pa_cons (pv 0) (pa_cons (pe_bltn (v := .ty "tuple") (by rfl) T.tuple (by decide +kernel) rfl) pa_nil)))))
        (pw_or1 (pt_cmpR op_gt (pe_callB call_len_seq (by rfl) T.len PySem.boot_len (pa_cons (pv 0) pa_nil)) (pe_glob (v := .int 12) (by rfl) gM ⟨_, rfl⟩) (nomark _))))) (pss_one ps_never) pss_nil)
      (pss_one (ps_ret (pe_and (pe_callB (cr_all rfl) (by rfl) T.all (by decide +kernel) (pa_cons
          (pe_lc (own := [("one", 2)]) (g := gName 2) (tt := tYes) (by rfl) scIsSum.nd (pi_tup (pv 0)) (blkOk_by (own := [("one", 2)]) (N := ["thing", "prime", "one"]) (sc := defScope sIsSum) (by decide +kernel))
            (fun _ _ _ _ _ => pg_name (i := 2) scIsSum.nd rfl (Or.inl rfl)) (fun _ _ _ _ _ => pts_nil) (fun _ _ _ _ _ => pe_c C hr (by rfl) (pa_cons (pv 2) (pa_cons (pv 1) pa_nil)))) pa_nil))
        (pe_one (pe_or (pe_cmpR (op_eqD hr.units) (pv 0) (pe_tup pa_nil) (nomark _)) (pe_one (pe_cmpR op_ne (pe_ix ix_tup (pv 0) (pe_un un_neg pe_int) (fun _ _ => rfl)) pe_int (nomark _)))))))), ?_⟩
    refine ⟨_, rfl, _, _, _, _, true, rfl, .ty "tuple", .base (.tup ha), kit_ty (by decide +kernel), true, rfl, ?_⟩
    refine iteF ?_
    refine ⟨_, rfl, a, _, rfl, .inr (SqT.of ha), _, _, rfl, rfl, _, rfl, ?_⟩
    rw [List.length_map]
    rw [decide_eq_false (show ¬ ((12 : Int) < (l.length : Nat)) by omega)]
    refine iteF ?_
    refine ⟨_, rfl, a, rfl, ⟨_, SqT.of ha⟩, fun L hL => ?_⟩
    refine lc_tup (xs := l.map V.int) (fun i H' => Same H H' ∧ H' L = some (.lst ((List.replicate i true).map V.bl))) ⟨same_new hL, upd_same⟩ (fun i H' _ h => SqT.of (h.1 _ _ ha)) ?_ ?_
    · rintro i x H' hx ⟨sm, eL⟩
      obtain ⟨z, rfl, hz⟩ := ints_get hx
      have r := hc.1 z (List.mem_of_getElem? hz)
      refine ⟨rfl, ?_⟩
      refine ⟨_, rfl, _, rfl, z, p, rfl, r.1, r.2, _, eL, ?_, ?_, ?_⟩
      · rw [List.length_map, List.length_replicate]
        have := (List.getElem?_eq_some_iff.mp hz).1
        exact small1000 (by omega)
      · exact same_upd2 hL sm
      · rw [upd_same, trues_snoc]
    · rintro H' ⟨sm, eL⟩
      refine ⟨L, _, rfl, SqL.of eL, true, ?_, ?_⟩
      · rw [all_trues]
      refine iteT ?_
      refine ⟨_, rfl, Nat.zero_le _, fun p2 hp2 => ?_⟩
      have s2 : Same H (upd H' p2 (.tup [])) := sm.trans (same_new hp2)
      refine ⟨polyD l, polyD [], (show PolyAt (upd H' p2 (.tup [])) (.ref a) l from ⟨a, rfl, s2 _ _ ha⟩).dp, (show PolyAt (upd H' p2 (.tup [])) (.ref p2) [] from ⟨p2, rfl, upd_same⟩).dp, polyD_sh _, polyD_sh _, _, rfl, ?_⟩
      rw [polyD_eqv]
      by_cases e : l = []
      · rw [decide_eq_true e]
        exact iteT (q _ s2)
      · rw [decide_eq_false e]
        refine iteF ?_
        obtain ⟨r, y, rfl⟩ : ∃ r y, l = r ++ [y] := ⟨l.dropLast, l.getLast e, (List.dropLast_concat_getLast e).symm⟩
        have hy : y ≠ 0 := hc.2 y (by simp)
        refine ⟨_, rfl, 1, rfl, a, _, -1, .int y, rfl, rfl, SqT.of (s2 _ _ ha), ?_, rfl, ?_⟩
        · rw [List.map_append]
          exact atI_last _ _
        · rw [show (!decide (V.int y = V.int 0)) = true by rw [decide_eq_false (fun z => hy (V.int.inj z))]; rfl]
          exact q _ s2
end
end K8

set_option Elab.async false
set_option linter.all false
set_option maxRecDepth 100000
set_option maxHeartbeats 4000000
namespace K8
open PySem PySem.Spec PyProof.Rows L2
/-! ### cut -/
structure Trim (ns l : List Int) : Prop where
  cfs : ∀ n, cf l n = cf ns n
  len : l.length ≤ ns.length
  last : ∀ x, l.getLast? = some x → x ≠ 0
  mem : ∀ x ∈ l, x ∈ ns
theorem cf_take {ns : List Int} {m : Nat} (n : Nat) (z : ∀ i, m ≤ i → cf ns i = 0) : cf (ns.take m) n = cf ns n := by
  by_cases h : n < m
  · unfold cf
    rw [List.getD_eq_getElem?_getD, List.getD_eq_getElem?_getD, List.getElem?_take, if_pos h]
  · rw [z n (by omega), cf_out]
    rw [List.length_take]
    omega
theorem Trim.of {ns : List Int} {m : Nat} (hm : m ≤ ns.length) (z : ∀ i, m ≤ i → cf ns i = 0) (h : m = 0 ∨ cf ns (m - 1) ≠ 0) : Trim ns (ns.take m) := by
  refine ⟨fun n => cf_take n z, by rw [List.length_take]; omega, fun x hx => ?_, fun x hx => List.mem_of_mem_take hx⟩
  rw [List.getLast?_eq_getElem?, List.length_take, Nat.min_eq_left hm, List.getElem?_take] at hx
  rcases h with h | h
  · subst h
    simp at hx
  · have h0 : 0 < m := by
      rcases Nat.eq_zero_or_pos m with e | e
      · subst e
        simp at hx
      · exact e
    rw [if_pos (by omega)] at hx
    rw [cf_some hx] at h
    exact h
theorem Trim.canon {p : Int} {ns l : List Int} (h : Trim ns l) (r : ∀ x ∈ ns, 0 ≤ x ∧ x < p) : Canon p l := ⟨fun x hx => r x (h.mem x hx), h.last⟩
theorem sIx_some (n m : Nat) (d : Nat) (h : m ≤ n) : HT.sIx n d (some (m : Int)) = m := by
  rw [HT.sIx_nat]
  omega
theorem cut_to {xs : List V} {m : Nat} (h : m ≤ xs.length) : cutV xs none (some (m : Int)) = xs.take m := by
  unfold cutV
  rw [sIx_some _ _ _ h, HT.sIx_none]
  rfl
section
variable {P : Program} {w : World} {K : PySem.W.Frag} {mg : Str → Option Value} {base : Heap}
theorem scCut : FnScope ["numbers", "many"] ["numbers"] (defScope sCut) := ⟨rfl, rfl, rfl, by decide +kernel, rfl, by decide +kernel, by decide +kernel⟩
def spCut : L2.Sp := fun vs H Q _ => ∃ (a : Addr) (ns : List Int), vs = [.ref a] ∧ H a = some (.lst (ns.map V.int)) ∧ ∀ H' v l, Same H H' → PolyAt H' v l → Trim ns l → Q v H'
theorem ok_cut (D : IsDef K mg "cut" sCut ["numbers"]) (T : Blt mg) : Ok P w K mg base 1 "cut" ["numbers"] spCut := by
  refine D.ok scCut (fun vs H Q E h => ?_) (fun f cdv A outer s H vs Q E hr h => ?_)
  · obtain ⟨a, ns, rfl, _⟩ := h
    rfl
  · obtain ⟨a, ns, rfl, ha, q⟩ := h
    refine ⟨_, pss_cons (ps_set (i := 1) scCut.nd rfl (.inl rfl) (pe_callB call_len_seq (by rfl) T.len PySem.boot_len (pa_cons (pv 0) pa_nil)))
      (pss_cons (ps_while PassesOwn.never (PW.pt (pw_and (pt_cmpR op_gt (pv 1) pe_int (nomark _)) (pw_and1 (pt_cmpR op_eq (pe_ix ix_list (pv 0) (pe_op op_sub (pv 1) pe_int) (fun _ _ => rfl)) pe_int (nomark _)))))
        (pss_one (ps_aug (i := 1) scCut.nd rfl (.inl rfl) pe_int ip_sub)))
      (pss_one (ps_ret (pe_callTy call_tuple_of (by rfl) T.tuple (by decide +kernel) (pa_cons (pe_slice sl_list (pv 0) po_none (po_some (pv 1))) pa_nil))))), ?_⟩
    refine ⟨_, rfl, a, _, rfl, .inl (SqL.of ha), ?_⟩
    rw [List.length_map]
    refine ⟨fun m σ H' => H' = H ∧ m ≤ ns.length ∧ σ = [some (.ref a), some (.int (m : Nat))] ∧ ∀ i, m ≤ i → cf ns i = 0, ⟨ns.length, rfl, Nat.le_refl _, rfl, fun i hi => cf_out hi⟩, ?_⟩
    rintro m σ H' ⟨rfl, hm, rfl, z⟩
    refine ⟨_, rfl, _, _, rfl, rfl, _, rfl, ?_⟩
    have done : (m = 0 ∨ cf ns (m - 1) ≠ 0) → tRet (tCB (fun xs H Q => ∃ p ys, xs = [.ref p] ∧ ((SqL K H p ys ∧ ∀ l, H l = none → Q (.ref l) (upd H l (.tup ys))) ∨ (SqT K H p ys ∧ Q (.ref p) H))) (tCons (tSl (rSlL K) (tVar 0) tNoPart (tPart (tVar 1))) tNil)) { nx := fun _ H' => Q .non H', rt := Q } [some (.ref a), some (.int (m : Nat))] H' := by
      intro e
      refine ⟨_, rfl, _, rfl, _, rfl, a, _, rfl, SqL.of ha, fun p1 hp1 => ⟨p1, _, rfl, .inl ⟨SqL.of upd_same, fun l hl => ?_⟩⟩⟩
      rw [cut_to (by rw [List.length_map]; exact hm), ← List.map_take] at hl ⊢
      exact q _ _ _ ((same_new hp1).trans (same_new hl)) ⟨l, rfl, upd_same⟩ (Trim.of hm z e)
    by_cases h0 : (0 : Int) < (m : Nat)
    · rw [decide_eq_true h0]
      have hm1 : m - 1 < ns.length := by omega
      refine ⟨_, rfl, _, rfl, _, _, rfl, rfl, a, _, _, .int ns[m - 1], rfl, rfl, SqL.of ha, ?_, rfl, _, rfl, ?_⟩
      · rw [show ((m : Nat) : Int) - 1 = ((m - 1 : Nat) : Int) by omega]
        exact atI_nat (ints_at (List.getElem?_eq_getElem hm1))
      · by_cases e : ns[m - 1] = 0
        · rw [decide_eq_true (by rw [e])]
          refine iteT ⟨fun σ' H2 => H2 = H' ∧ σ' = [some (.ref a), some (.int ((m - 1 : Nat) : Int))], fun σ' H2 ⟨e1, e2⟩ => ⟨m - 1, by omega, e1, by omega, e2, fun i hi => ?_⟩, _, rfl, _, _, rfl, rfl, rfl, ?_⟩
          · by_cases q1 : i = m - 1
            · rw [q1, cf_in hm1]
              exact e
            · exact z i (by omega)
          · show [some (V.ref a), some (V.int (((m : Nat) : Int) - 1))] = _
            rw [show ((m : Nat) : Int) - 1 = ((m - 1 : Nat) : Int) by omega]
        · rw [decide_eq_false (fun z => e (V.int.inj z))]
          exact iteF (done (.inr (by rw [cf_in hm1]; exact e)))
    · rw [decide_eq_false h0]
      exact done (.inl (by omega))
/-! ### joined -/
theorem scJoined : FnScope ["one", "other", "number", "by", "prime", "found", "at", "part"] ["one", "other", "number", "by", "prime"] (defScope sJoined) := ⟨rfl, rfl, rfl, by decide +kernel, rfl, by decide +kernel, by decide +kernel⟩
def spJoined : L2.Sp := fun vs H Q _ => ∃ (v1 v2 : V) (k p : Int) (b : Nat) (one two : Poly), vs = [v1, v2, .int k, .int (b : Nat), .int p] ∧ PolyAt H v1 one ∧ PolyAt H v2 two ∧ 0 < p ∧ (∀ x ∈ one, 0 ≤ x ∧ x < p) ∧ -(2 ^ 64) < k ∧ k < 2 ^ 64 ∧
  one.length ≤ 1000 ∧ two.length ≤ 1000 ∧ b ≤ 1000 ∧ ∀ H' v l, Same H H' → PolyAt H' v l → Comb p one two k b l → Q v H'
/-- the list while it is filled -/
structure Filled (p : Int) (one two : Poly) (k : Int) (b i : Nat) (l : List Int) : Prop where
  len : l.length = max one.length (two.length + b)
  rng : ∀ x ∈ l, 0 ≤ x ∧ x < p
  cfs : ∀ t, Cg p (cf l t) (cf one t + k * (if b ≤ t ∧ t - b < i then cf two (t - b) else 0))
theorem cf_append (a b : List Int) (n : Nat) : cf (a ++ b) n = if n < a.length then cf a n else cf b (n - a.length) := by
  unfold cf
  rw [List.getD_eq_getElem?_getD, List.getElem?_append]
  split
  · rw [List.getD_eq_getElem?_getD]
  · rw [List.getD_eq_getElem?_getD]
theorem cf_zeros (m n : Nat) : cf (List.replicate m 0) n = 0 := by
  unfold cf
  rw [List.getD_eq_getElem?_getD, List.getElem?_replicate]
  split <;> rfl
theorem cf_set {l : List Int} {i : Nat} (h : i < l.length) (x : Int) (n : Nat) : cf (l.set i x) n = if n = i then x else cf l n := by
  unfold cf
  rw [List.getD_eq_getElem?_getD, List.getElem?_set]
  by_cases e : n = i
  · subst e
    rw [if_pos rfl, if_pos rfl, if_pos h]
    rfl
  · rw [if_neg (fun z => e z.symm), if_neg e, List.getD_eq_getElem?_getD]
theorem Filled.start {p : Int} {one two : Poly} {k : Int} {b : Nat} (hp : 0 < p) (h : ∀ x ∈ one, 0 ≤ x ∧ x < p) : Filled p one two k b 0 (one ++ List.replicate (two.length + b - one.length) 0) := by
  refine ⟨by rw [List.length_append, List.length_replicate]; omega, fun x hx => ?_, fun t => ?_⟩
  · rcases List.mem_append.mp hx with hx | hx
    · exact h x hx
    · rw [List.eq_of_mem_replicate hx]
      omega
  · rw [if_neg (by omega), cf_append]
    by_cases ht : t < one.length
    · rw [if_pos ht]
      exact .of_eq (by omega)
    · rw [if_neg ht, cf_zeros, cf_out (l := one) (by omega)]
      exact .of_eq (by omega)
theorem Filled.step {p : Int} {one two : Poly} {k : Int} {b i : Nat} {l : List Int} (hp : 0 < p) (F : Filled p one two k b i l) (hi : i < two.length) :
    Filled p one two k b (i + 1) (l.set (i + b) ((cf l (i + b) + k * cf two i) % p)) := by
  have hlt : i + b < l.length := by rw [F.len]; omega
  refine ⟨by rw [List.length_set]; exact F.len, fun x hx => ?_, fun t => ?_⟩
  · rcases List.mem_or_eq_of_mem_set hx with hx | hx
    · exact F.rng x hx
    · rw [hx]
      exact ⟨Int.emod_nonneg _ (by omega), Int.emod_lt_of_pos _ hp⟩
  · rw [cf_set hlt]
    by_cases e : t = i + b
    · subst e
      rw [if_pos rfl, if_pos (by omega), show i + b - b = i by omega]
      refine (Cg.emod _ _).trans ?_
      have := F.cfs (i + b)
      rw [if_neg (by omega)] at this
      refine (this.add (Cg.refl p (k * cf two i))).trans (.of_eq (by omega))
    · rw [if_neg e]
      refine (F.cfs t).trans (.of_eq ?_)
      by_cases c : b ≤ t ∧ t - b < i
      · rw [if_pos c, if_pos (by omega)]
      · rw [if_neg c, if_neg (by omega)]
theorem Filled.done {p : Int} {one two : Poly} {k : Int} {b : Nat} {l r : List Int} (F : Filled p one two k b two.length l) (t : Trim l r) : Comb p one two k b r := by
  refine ⟨t.canon F.rng, by rw [← F.len]; exact t.len, fun n => ?_⟩
  rw [t.cfs]
  refine (F.cfs n).trans (.of_eq ?_)
  unfold sh
  by_cases c : n < b
  · rw [if_pos c, if_neg (by omega)]
  · rw [if_neg c]
    by_cases c2 : n - b < two.length
    · rw [if_pos (by omega)]
    · rw [if_neg (by omega), cf_out (l := two) (by omega)]
theorem rep_flat (m : Nat) : (List.replicate m [V.int 0]).flatten = (List.replicate m (0 : Int)).map V.int := by
  induction m with
  | zero => rfl
  | succ m ih => rw [List.replicate_succ, List.flatten_cons, ih]; rfl
theorem ok_joined (D : IsDef K mg "joined" sJoined ["one", "other", "number", "by", "prime"]) (T : Blt mg) (C : Ok P w K mg base 1 "cut" ["numbers"] spCut) : Ok P w K mg base 2 "joined" ["one", "other", "number", "by", "prime"] spJoined := by
  refine D.ok scJoined (fun vs H Q E h => ?_) (fun f cdv A outer s H vs Q E hr h => ?_)
  · obtain ⟨v1, v2, k, p, b, one, two, rfl, _⟩ := h
    rfl
  · obtain ⟨v1, v2, k, p, b, one, two, rfl, ⟨a1, rfl, h1⟩, ⟨a2, rfl, h2⟩, hp, hone, k0, k1, l1, l2, lb, q⟩ := h
    refine ⟨_, pss_cons (ps_set (i := 5) scJoined.nd rfl (.inl rfl) (pe_op op_cat (pe_callTy call_list_of (by rfl) T.list (by decide +kernel) (pa_cons (pv 0) pa_nil))
        (pe_op op_rep (pe_lst (pa_cons pe_int pa_nil)) (pe_op op_sub (pe_op op_add (pe_callB call_len_seq (by rfl) T.len PySem.boot_len (pa_cons (pv 1) pa_nil)) (pv 3)) (pe_callB call_len_seq (by rfl) T.len PySem.boot_len (pa_cons (pv 0) pa_nil))))))
      (pss_cons (ps_for PassesOwn.never rfl (pi_enumT rfl T.enumerate (pa_cons (pv 1) pa_nil)) (pg_tup rfl (pgs_cons (pg_name (i := 6) scJoined.nd rfl (.inl rfl)) (pgs_cons (pg_name (i := 7) scJoined.nd rfl (.inl rfl)) pgs_nil)))
        (pss_one (ps_asg (pe_op op_mod (pe_op op_add (pe_ix ix_list (pv 5) (pe_op op_add (pv 6) (pv 3)) (fun _ _ => rfl)) (pe_op op_mul (pv 2) (pv 7))) (pv 4)) (pg_sub (pv 5) (pe_op op_add (pv 6) (pv 3)) set_list))))
      (pss_one (ps_ret (pe_c C hr (by rfl) (pa_cons (pv 5) pa_nil))))), ?_⟩
    -- list(one) + [0] * (..)
    refine ⟨_, rfl, a1, _, rfl, .inr (SqT.of h1), fun la hla => ?_⟩
    refine ⟨by decide, fun lz hlz => ?_⟩
    have s1 : Same H (upd H la (.lst (one.map V.int))) := same_new hla
    have s2 : Same H (upd (upd H la (.lst (one.map V.int))) lz (.lst [V.int 0])) := s1.trans (same_new hlz)
    refine ⟨_, rfl, a2, _, rfl, .inr (SqT.of (s2 _ _ h2)), _, rfl, _, _, rfl, rfl, _, rfl, a1, _, rfl, .inr (SqT.of (s2 _ _ h1)), _, _, rfl, rfl, ?_⟩
    rw [List.length_map, List.length_map]
    have nzl : la ≠ lz := ne_of_none upd_same hlz
    have ez : ((two.length : Nat) : Int) + ((b : Nat) : Int) - ((one.length : Nat) : Int) ≤ 2000 := by omega
    refine ⟨lz, _, _, rfl, rfl, upd_same, by omega, by omega, ?_, fun lr hlr => ?_⟩
    · have : (((two.length : Nat) : Int) + ((b : Nat) : Int) - ((one.length : Nat) : Int)).toNat ≤ 2000 := by omega
      show 1 * _ ≤ _
      rw [Nat.one_mul]
      exact Nat.le_trans this (by decide)
    have s3 := same_new (o := .lst (List.replicate (((two.length : Nat) : Int) + ((b : Nat) : Int) - ((one.length : Nat) : Int)).toNat [V.int 0]).flatten) hlr
    refine ⟨la, lr, _, _, rfl, rfl, s3 _ _ (by rw [upd_ne nzl, upd_same]), upd_same, ?_, fun lf hlf => ?_⟩
    · rw [rep_flat, List.length_map, List.length_map, List.length_replicate]
      exact Nat.le_trans (show one.length + _ ≤ 3000 by omega) (by decide)
    rw [rep_flat, ← List.map_append, show (((two.length : Nat) : Int) + ((b : Nat) : Int) - ((one.length : Nat) : Int)).toNat = two.length + b - one.length by omega]
    rw [rep_flat] at hlf s3
    rw [show (((two.length : Nat) : Int) + ((b : Nat) : Int) - ((one.length : Nat) : Int)).toNat = two.length + b - one.length by omega] at hlf s3
    have s4 := (s2.trans s3).trans (same_new (o := .lst ((one ++ List.replicate (two.length + b - one.length) 0).map V.int)) hlf)
    have hlf0 : H lf = none := (s2.trans s3).free hlf
    -- the loop
    refine ⟨_, rfl, a2, _, rfl, SqT.of (s4 _ _ h2), ?_⟩
    refine for_enumT (xs := two.map V.int) (fun i σ H' => Same H H' ∧ ∃ l v6 v7, σ = [some (.ref a1), some (.ref a2), some (.int k), some (.int (b : Nat)), some (.int p), some (.ref lf), v6, v7] ∧ H' lf = some (.lst (l.map V.int)) ∧ Filled p one two k b i l)
      ⟨s4, _, none, none, rfl, upd_same, Filled.start hp hone⟩ (fun i σ H' h => SqT.of (h.1 _ _ h2)) ?_ ?_
    · rintro i x Tt σ H' hx ⟨sm, l, v6, v7, rfl, hl, F⟩ hT
      obtain ⟨z, rfl, hz⟩ := ints_get hx
      have hi : i < two.length := (List.getElem?_eq_some_iff.mp hz).1
      have hlt : i + b < l.length := by rw [F.len]; omega
      have sT := same_new (o := .tup [.int (i : Nat), .int z]) hT
      have hl2 := sT _ _ hl
      refine ⟨Tt, _, rfl, SqT.of upd_same, rfl, _, _, rfl, _, _, rfl, rfl, ?_⟩
      refine ⟨_, rfl, _, rfl, _, rfl, _, _, rfl, rfl, lf, _, _, .int l[i + b], rfl, rfl, SqL.of hl2, atI_nat (ints_at (List.getElem?_eq_getElem hlt)), _, rfl, _, rfl, _, _, rfl, rfl, .inl ⟨k0, k1⟩, _, _, rfl, rfl, _, rfl, _, _, rfl, rfl, hp, ?_⟩
      refine ⟨_, rfl, _, rfl, _, rfl, _, _, rfl, rfl, lf, _, _, i + b, rfl, rfl, hl2, ?_, ?_⟩
      · rw [List.length_map]
        unfold ixN
        rw [if_pos (by omega), if_pos (by omega)]
        congr 1
      · refine ⟨same_upd2 hlf0 (sm.trans sT), _, _, _, rfl, ?_, F.step hp hi⟩
        rw [upd_same, List.map_set, cf_in hlt, cf_some hz]
    · rintro σ H' ⟨sm, l, v6, v7, rfl, hl, F⟩
      rw [List.length_map] at F
      exact ⟨_, rfl, lf, l, rfl, hl, fun H2 v r s5 hv t => q H2 v r (sm.trans s5) hv (F.done t)⟩
end
end K8

set_option Elab.async false
set_option linter.all false
set_option maxRecDepth 100000
set_option maxHeartbeats 4000000
namespace K8
open PySem PySem.Spec PyProof.Rows L2
abbrev sHead : Stmt := topS 21
abbrev sLess : Stmt := topS 22
/-- the list of ranks -/
def OrderAt (H : Hp) (v : V) (w : Nat) : Prop := ∃ a os, v = .ref a ∧ H a = some (.lst os) ∧ os.length = w ∧ ∀ (e : Nat) (o : V), os[e]? = some o → PolyAt H o [0, (e : Int)]
theorem OrderAt.keep {H H' : Hp} {v : V} {w : Nat} (h : OrderAt H v w) (s : Same H H') : OrderAt H' v w := by
  obtain ⟨a, os, e, q, l, f⟩ := h
  exact ⟨a, os, e, s _ _ q, l, fun e o z => (f e o z).keep (.of s)⟩
theorem All2.getD_row {R : V → Poly → Prop} {vs : List V} {row : Row} {e : Nat} (h : All2 R vs row) (he : e < row.length) : ∃ v, vs[e]? = some v ∧ R v (row.getD e []) := by
  obtain ⟨v, hv, r⟩ := h.get2 (List.getElem?_eq_getElem he)
  refine ⟨v, hv, ?_⟩
  rwa [List.getD_eq_getElem?_getD, List.getElem?_eq_getElem he]
section
variable {P : Program} {w : World} {K : PySem.W.Frag} {mg : Str → Option Value} {base : Heap}
theorem scPlain : FnScope ["width", "end"] ["width"] (defScope sPlain) := ⟨rfl, rfl, rfl, by decide +kernel, rfl, by decide +kernel, by decide +kernel⟩
def spPlain : L2.Sp := fun vs H Q _ => ∃ n : Nat, vs = [.int (n : Nat)] ∧ n ≤ 1000 ∧ ∀ H' v, Same H H' → OrderAt H' v n → Q v H'
theorem ok_plain (D : IsDef K mg "plain_order" sPlain ["width"]) (T : Blt mg) : Ok P w K mg base 1 "plain_order" ["width"] spPlain := by
  refine D.ok scPlain (fun vs H Q E h => ?_) (fun f cdv A outer s H vs Q E hr h => ?_)
  · obtain ⟨n, rfl, _⟩ := h
    rfl
  · obtain ⟨n, rfl, hn, q⟩ := h
    refine ⟨_, pss_one (ps_ret (pe_lc (own := [("end", 1)]) (g := gName 1) (tt := tYes) (by rfl) scPlain.nd (pi_range1 rfl T.range (pa_cons (pv 0) pa_nil)) (blkOk_by (own := [("end", 1)]) (N := ["width", "end"]) (sc := defScope sPlain) (by decide +kernel))
      (fun _ _ _ _ _ => pg_name (i := 1) scPlain.nd rfl (Or.inl rfl)) (fun _ _ _ _ _ => pts_nil) (fun _ _ _ _ _ => pe_tup (pa_cons pe_int (pa_cons (pv 1) pa_nil))))), ?_⟩
    refine ⟨_, rfl, _, rfl, by omega, by omega, fun L hL => ?_⟩
    refine lc_range (lo := 0) (n := ((n : Nat) : Int).toNat) (fun i H' => Same H H' ∧ ∃ os, H' L = some (.lst os) ∧ os.length = i ∧ ∀ (e : Nat) (o : V), os[e]? = some o → PolyAt H' o [0, (e : Int)])
      ⟨same_new hL, [], upd_same, rfl, fun e o z => by simp at z⟩ ?_ ?_
    · rintro i H' hi ⟨sm, os, eL, ho, hf⟩
      refine ⟨rfl, ?_⟩
      refine ⟨_, rfl, (by show 2 ≤ sizeLine; decide), fun p hp => ?_⟩
      have sp := same_new (o := .tup [V.int 0, .int (0 + (i : Int))]) hp
      refine ⟨os, sp _ _ eL, small1000 (by omega), same_upd2 hL (sm.trans sp), os ++ [.ref p], upd_same, by rw [List.length_append, ho]; rfl, fun e o z => ?_⟩
      have kp : Keeps H' (upd (upd H' p (.tup [V.int 0, .int (0 + (i : Int))])) L (.lst (os ++ [.ref p]))) := (Keeps.of sp).trans (keeps_lst (sp _ _ eL))
      rw [List.getElem?_append] at z
      split at z
      · exact (hf e o z).keep kp
      · rename_i c
        have e0 : e = i := by
          have := (List.getElem?_eq_some_iff.mp z).1
          rw [List.length_singleton] at this
          omega
        subst e0
        rw [ho, Nat.sub_self] at z
        cases z
        refine ⟨p, rfl, ?_⟩
        rw [upd_ne (ne_of_none eL hp).symm, upd_same, Int.zero_add]
        rfl
    · rintro H' ⟨sm, os, eL, ho, hf⟩
      exact q _ _ sm ⟨L, os, rfl, eL, by omega, hf⟩
theorem scRank : FnScope ["row", "order", "end"] ["row", "order", "end"] (defScope sRank) := ⟨rfl, rfl, rfl, by decide +kernel, rfl, by decide +kernel, by decide +kernel⟩
def spRank : L2.Sp := fun vs H Q _ => ∃ (vr vo : V) (e n : Nat) (row : Row), vs = [vr, vo, .int (e : Nat)] ∧ RowAt H vr row ∧ row.length = n ∧ OrderAt H vo n ∧ e < n ∧
  ∀ H' v, Same H H' → PolyAt H' v [((row.getD e []).length : Int) - 1, (e : Int)] → Q v H'
theorem ok_rank (D : IsDef K mg "rank_at" sRank ["row", "order", "end"]) (T : Blt mg) : Ok P w K mg base 1 "rank_at" ["row", "order", "end"] spRank := by
  refine D.ok scRank (fun vs H Q E h => ?_) (fun f cdv A outer s H vs Q E hr h => ?_)
  · obtain ⟨vr, vo, e, n, row, rfl, _⟩ := h
    rfl
  · obtain ⟨vr, vo, e, n, row, rfl, ⟨a, vs, rfl, ha, hrow⟩, hn, ⟨b, os, rfl, hb, ho, hf⟩, he, q⟩ := h
    obtain ⟨x, hx, ⟨ax, rfl, hax⟩⟩ := hrow.getD_row (e := e) (by omega)
    obtain ⟨o, hos⟩ : ∃ o, os[e]? = some o := ⟨_, List.getElem?_eq_getElem (by omega)⟩
    obtain ⟨ao, rfl, hao⟩ := hf e o hos
    refine ⟨_, pss_one (ps_ret (pe_tup (pa_cons (pe_op op_add (pe_op op_sub (pe_callB call_len_seq (by rfl) T.len PySem.boot_len (pa_cons (pe_ix ix_tup (pv 0) (pv 2) (fun _ _ => rfl)) pa_nil)) pe_int)
        (pe_ix ix_tup (pe_ix ix_list (pv 1) (pv 2) (fun _ _ => rfl)) pe_int (fun _ _ => rfl))) (pa_cons (pe_ix ix_tup (pe_ix ix_list (pv 1) (pv 2) (fun _ _ => rfl)) pe_int (fun _ _ => rfl)) pa_nil)))), ?_⟩
    refine ⟨_, rfl, _, rfl, a, _, _, _, rfl, rfl, SqT.of ha, atI_nat hx, ax, _, rfl, .inr (SqT.of hax), _, _, rfl, rfl, ?_⟩
    refine ⟨_, rfl, _, rfl, b, _, _, _, rfl, rfl, SqL.of hb, atI_nat hos, ao, _, 0, .int 0, rfl, rfl, SqT.of hao, rfl, _, _, rfl, rfl, ?_⟩
    refine ⟨_, rfl, _, rfl, b, _, _, _, rfl, rfl, SqL.of hb, atI_nat hos, ao, _, 1, .int (e : Nat), rfl, rfl, SqT.of hao, rfl, (by show 2 ≤ sizeLine; decide), fun p hp => ?_⟩
    refine q _ _ (same_new hp) ⟨p, rfl, ?_⟩
    rw [upd_same, List.length_map]
    show some (HO.tup [V.int (((row.getD e []).length : Int) - 1 + 0), V.int (e : Nat)]) = _
    rw [Int.add_zero]
    rfl
end
end K8

set_option Elab.async false
set_option linter.all false
set_option maxRecDepth 100000
set_option maxHeartbeats 4000000
namespace K8
open PySem PySem.Spec PyProof.Rows L2
/-! ### head_of -/
/-- the head among the first i ends -/
def HdTo (w : Nat) (row : Row) (i : Nat) (v : V) : Prop :=
  (v = .non ∧ ∀ e, e < i → row.getD e [] = []) ∨ ∃ e : Nat, v = .int (e : Nat) ∧ e < i ∧ row.getD e [] ≠ [] ∧ ∀ e', e' < i → row.getD e' [] ≠ [] → rk w row e' ≤ rk w row e
theorem lexAt2 (a b c d : Int) : Ob.lexAt (fun j => decide (([a, b] : List Int).getD j 0 = ([c, d] : List Int).getD j 0)) (fun j => decide (([c, d] : List Int).getD j 0 < ([a, b] : List Int).getD j 0)) (decide (([c, d] : List Int).length < ([a, b] : List Int).length)) 0 (min ([a, b] : List Int).length ([c, d] : List Int).length) = decide (c < a ∨ (a = c ∧ d < b)) := by
  show Ob.lexAt _ _ _ 0 2 = _
  rw [Ob.lexAt_succ, Ob.lexAt_succ, Ob.lexAt_zero]
  show (if decide (a = c) = true then (if decide (b = d) = true then decide (2 < 2) else decide (d < b)) else decide (c < a)) = _
  by_cases h : a = c
  · subst h
    simp only [decide_true, if_true, true_and, Int.lt_irrefl, false_or]
    by_cases h2 : b = d
    · subst h2
      simp
    · simp [h2]
  · simp [h]
theorem gt_rk {w e f : Nat} {row : Row} (he : e < w) (hf : f < w) (ne : row.getD e [] ≠ []) (nf : row.getD f [] ≠ []) :
    decide (((row.getD f []).length : Int) - 1 < ((row.getD e []).length : Int) - 1 ∨ (((row.getD e []).length : Int) - 1 = ((row.getD f []).length : Int) - 1 ∧ (f : Int) < (e : Int))) = decide (rk w row f < rk w row e) := by
  have h1 := List.length_pos_iff.mpr ne
  have h2 := List.length_pos_iff.mpr nf
  refine decide_eq_decide.mpr ?_
  unfold rk
  rw [ix_lt hf he]
  omega
theorem rk_inj {w e f : Nat} {row : Row} (he : e < w) (hf : f < w) (h : rk w row e = rk w row f) : e = f := by
  have a := rk_mod row he
  have b := rk_mod row hf
  rw [h] at a
  omega
section
variable {P : Program} {w : World} {K : PySem.W.Frag} {mg : Str → Option Value} {base : Heap}
theorem scHead : FnScope ["row", "order", "found", "end", "one"] ["row", "order"] (defScope sHead) := ⟨rfl, rfl, rfl, by decide +kernel, rfl, by decide +kernel, by decide +kernel⟩
def spHead : L2.Sp := fun vs H Q _ => ∃ (vr vo : V) (n : Nat) (row : Row), vs = [vr, vo] ∧ RowAt H vr row ∧ row.length = n ∧ OrderAt H vo n ∧ ∀ H' v, Same H H' → HdTo n row n v → Q v H'
theorem ok_head (D : IsDef K mg "head_of" sHead ["row", "order"]) (T : Blt mg) (C : Ok P w K mg base 1 "rank_at" ["row", "order", "end"] spRank) : Ok P w K mg base 2 "head_of" ["row", "order"] spHead := by
  refine D.ok scHead (fun vs H Q E h => ?_) (fun f cdv A outer s H vs Q E hr h => ?_)
  · obtain ⟨vr, vo, n, row, rfl, _⟩ := h
    rfl
  · obtain ⟨vr, vo, n, row, rfl, hR, hn, hO, q⟩ := h
    obtain ⟨a, vs, rfl, ha, hrow⟩ := id hR
    refine ⟨_, pss_cons (ps_set (i := 2) scHead.nd rfl (.inl rfl) pe_non)
      (pss_cons (ps_for PassesOwn.never rfl (pi_enumT rfl T.enumerate (pa_cons (pv 0) pa_nil)) (pg_tup rfl (pgs_cons (pg_name (i := 3) scHead.nd rfl (.inl rfl)) (pgs_cons (pg_name (i := 4) scHead.nd rfl (.inl rfl)) pgs_nil)))
        (pss_one (ps_if (PW.pt (pw_and (pt_cmpR (op_neD hr.units) (pv 4) (pe_tup pa_nil) (nomark _)) (pw_and1 (PW.pt (pw_or (pt_cmpR op_isN (pv 2) pe_non (nomark _))
            (pw_or1 (pt_cmpR (op_gtT hr.units0) (pe_c C hr (by rfl) (pa_cons (pv 0) (pa_cons (pv 1) (pa_cons (pv 3) pa_nil)))) (pe_c C hr (by rfl) (pa_cons (pv 0) (pa_cons (pv 1) (pa_cons (pv 2) pa_nil)))) (nomark _))))))))
          (pss_one (ps_set (i := 2) scHead.nd rfl (.inl rfl) (pv 3))) pss_nil)))
      (pss_one (ps_ret (pv 2)))), ?_⟩
    refine ⟨_, rfl, a, vs, rfl, SqT.of ha, ?_⟩
    refine for_enumT (xs := vs) (fun i σ H' => Same H H' ∧ i ≤ n ∧ ∃ vf v3 v4, σ = [some (.ref a), some vo, some vf, v3, v4] ∧ HdTo n row i vf)
      ⟨.refl H, Nat.zero_le _, .non, none, none, rfl, .inl ⟨rfl, fun e he => absurd he (Nat.not_lt_zero _)⟩⟩ (fun i σ H' h => SqT.of (h.1 _ _ ha)) ?_ ?_
    · rintro i x Tt σ H' hx ⟨sm, hi, vf, v3, v4, rfl, F⟩ hT
      obtain ⟨l, hl, ax, rfl, hax⟩ := hrow.get hx
      have hin : i < n := by
        have := (List.getElem?_eq_some_iff.mp hl).1
        omega
      have el : row.getD i [] = l := by rw [List.getD_eq_getElem?_getD, hl]; rfl
      have sT := sm.trans (same_new (o := .tup [.int (i : Nat), .ref ax]) hT)
      refine ⟨Tt, _, rfl, SqT.of upd_same, rfl, _, _, rfl, _, _, rfl, rfl, ?_⟩
      refine ⟨_, rfl, Nat.zero_le _, fun p2 hp2 => ?_⟩
      have s2 := sT.trans (same_new (o := .tup []) hp2)
      refine ⟨polyD l, polyD [], (show PolyAt _ (.ref ax) l from ⟨ax, rfl, s2 _ _ hax⟩).dp, (show PolyAt _ (.ref p2) [] from ⟨p2, rfl, upd_same⟩).dp, polyD_sh _, polyD_sh _, _, rfl, ?_⟩
      rw [polyD_eqv]
      by_cases e : l = []
      · rw [decide_eq_true e]
        refine ⟨s2, hin, vf, _, _, rfl, ?_⟩
        rcases F with ⟨rfl, z⟩ | ⟨e0, rfl, h0, h1, h2⟩
        · refine .inl ⟨rfl, fun e1 he1 => ?_⟩
          by_cases q1 : e1 = i
          · rw [q1, el]
            exact e
          · exact z e1 (by omega)
        · refine .inr ⟨e0, rfl, by omega, h1, fun e1 he1 hn1 => ?_⟩
          by_cases q1 : e1 = i
          · rw [q1, el] at hn1
            exact absurd e hn1
          · exact h2 e1 (by omega) hn1
      · rw [decide_eq_false e]
        have ne : row.getD i [] ≠ [] := by rw [el]; exact e
        rcases F with ⟨rfl, z⟩ | ⟨e0, rfl, h0, h1, h2⟩
        · refine ⟨_, rfl, rfl, _, rfl, ?_⟩
          refine ⟨_, rfl, s2, hin, _, _, _, rfl, .inr ⟨i, rfl, by omega, ne, fun e1 he1 hn1 => ?_⟩⟩
          by_cases q1 : e1 = i
          · rw [q1]
            exact Nat.le_refl _
          · exact absurd (z e1 (by omega)) hn1
        · refine ⟨_, rfl, rfl, _, rfl, ?_⟩
          refine ⟨_, rfl, _, rfl, _, rfl, .ref a, vo, i, n, row, rfl, hR.keep (.of s2), hn, hO.keep s2, hin, fun H3 u3 s3 hu3 => ?_⟩
          refine ⟨_, rfl, _, rfl, _, rfl, .ref a, vo, e0, n, row, rfl, hR.keep (.of (s2.trans s3)), hn, hO.keep (s2.trans s3), by omega, fun H4 u4 s4 hu4 => ?_⟩
          obtain ⟨b3, rfl, hb3⟩ := hu3
          obtain ⟨b4, rfl, hb4⟩ := hu4
          refine ⟨b3, b4, _, _, rfl, rfl, SqT.of (s4 _ _ hb3), SqT.of hb4, _, rfl, ?_⟩
          rw [lexAt2, gt_rk hin (by omega) ne h1]
          have s5 := (s2.trans s3).trans s4
          by_cases g : rk n row e0 < rk n row i
          · rw [decide_eq_true g]
            refine ⟨_, rfl, s5, hin, _, _, _, rfl, .inr ⟨i, rfl, by omega, ne, fun e1 he1 hn1 => ?_⟩⟩
            by_cases q1 : e1 = i
            · rw [q1]
              exact Nat.le_refl _
            · have := h2 e1 (by omega) hn1
              omega
          · rw [decide_eq_false g]
            refine ⟨s5, hin, _, _, _, rfl, .inr ⟨e0, rfl, by omega, h1, fun e1 he1 hn1 => ?_⟩⟩
            by_cases q1 : e1 = i
            · rw [q1]
              omega
            · exact h2 e1 (by omega) hn1
    · rintro σ H' ⟨sm, hi, vf, v3, v4, rfl, F⟩
      rw [hrow.len, hn] at F
      exact ⟨_, rfl, q _ _ sm F⟩
end
end K8

set_option Elab.async false
set_option linter.all false
set_option maxRecDepth 100000
set_option maxHeartbeats 4000000
namespace K8
open PySem PySem.Spec PyProof.Rows L2
abbrev sLevel : Stmt := topS 26
/-- a comprehension over zip of two tuples of one length -/
theorem lc_zipT {K : PySem.W.Frag} {a b : Addr} {xs ys : List V} {g : TG} {tt : TT} {te : TE} {vs : List Nat} {σ : L2.St} {H1 : Hp} {D : Addr} {Qd : Hp → Prop} (hlen : xs.length = ys.length) (Pv : Nat → Hp → Prop) (h0 : Pv 0 (upd H1 D (.lst [])))
    (hl : ∀ i H, Pv i H → SqT K H a xs ∧ SqT K H b ys)
    (hs : ∀ i x y T H, xs[i]? = some x → ys[i]? = some y → Pv i H → H T = none → g (.ref T) (wipe σ vs) (upd H T (.tup [x, y])) fun σ2 H2 => wipe σ2 vs = wipe σ vs ∧ tt σ2 H2 fun b H3 =>
      if b = true then te σ2 H3 fun y H4 => ∃ acc, H4 D = some (.lst acc) ∧ acc.length < sizeLine ∧ Pv (i + 1) (upd H4 D (.lst (acc ++ [y]))) else Pv (i + 1) H3) (hd : ∀ H, Pv xs.length H → Qd H) :
    ∃ W : Nat → Nat → Hp → Prop, (∃ m, W 0 m (upd H1 D (.lst []))) ∧ ∀ i m H, W i m H →
      ((RZ.ItzT K a b).stop i H ∧ Qd H) ∨ ((RZ.ItzT K a b).go i H ∧ ∃ Nx : Hp → Prop, (∀ H', Nx H' → ∃ m', m' < m ∧ W (i + 1) m' H') ∧ ∀ x H', (RZ.ItzT K a b).yld i H x H' → g x (wipe σ vs) H' fun σ2 H2 => wipe σ2 vs = wipe σ vs ∧ tt σ2 H2 fun b H3 =>
        if b = true then te σ2 H3 fun y H4 => ∃ acc, H4 D = some (.lst acc) ∧ acc.length < sizeLine ∧ Nx (upd H4 D (.lst (acc ++ [y]))) else Nx H3) := by
  refine ⟨fun i m H => m = xs.length - i ∧ i ≤ xs.length ∧ Pv i H, ⟨xs.length, by simp, Nat.zero_le _, h0⟩, ?_⟩
  rintro i m H ⟨rfl, hi, p⟩
  obtain ⟨q1, q2⟩ := hl i H p
  by_cases hlt : i < xs.length
  · have hlt2 : i < ys.length := by omega
    refine .inr ⟨⟨xs, ys, xs[i], ys[i], q1, q2, by simp [hlt], by simp [hlt2]⟩, Pv (i + 1), fun H' p' => ⟨xs.length - (i + 1), by omega, rfl, hlt, p'⟩, fun x H' y => ?_⟩
    obtain ⟨T, x1, y1, e, n, e2, f1, f2⟩ := y
    subst e e2
    exact hs i x1 y1 T H (f1 _ q1) (f2 _ q2) p n
  · have e : i = xs.length := by omega
    subst e
    exact .inl ⟨⟨xs, ys, q1, q2, .inl (Nat.le_refl _)⟩, hd H p⟩
theorem atI_lastI {l : List Int} (h : l ≠ []) : atI (l.map V.int) (-1) = some (.int (cf l (l.length - 1))) := by
  obtain ⟨r, y, rfl⟩ : ∃ r y, l = r ++ [y] := ⟨l.dropLast, l.getLast h, (List.dropLast_concat_getLast h).symm⟩
  rw [List.map_append]
  have : cf (r ++ [y]) ((r ++ [y]).length - 1) = y := cf_some (by simp)
  rw [this]
  exact atI_last _ _
/-- the list of the sums made so far -/
structure Acc (H : Hp) (L : Addr) (R : Nat → Poly → Prop) (i : Nat) : Prop where
  ex : ∃ (vs : List V) (ls : List Poly), H L = some (.lst vs) ∧ All2 (PolyAt H) vs ls ∧ ls.length = i ∧ ∀ e l, ls[e]? = some l → R e l
theorem Acc.start {H : Hp} {L : Addr} {R : Nat → Poly → Prop} : Acc (upd H L (.lst [])) L R 0 := ⟨[], [], upd_same, trivial, rfl, fun e l h => by simp at h⟩
theorem Acc.snoc {H H2 : Hp} {L : Addr} {R : Nat → Poly → Prop} {i : Nat} {v : V} {l : Poly} (A : Acc H L R i) (s : Same H H2) (hv : PolyAt H2 v l) (r : R i l) :
    ∃ acc, H2 L = some (.lst acc) ∧ acc.length = i ∧ Acc (upd H2 L (.lst (acc ++ [v]))) L R (i + 1) := by
  obtain ⟨vs, ls, e, z, n, f⟩ := A.ex
  refine ⟨vs, s _ _ e, z.len.trans n, vs ++ [v], ls ++ [l], upd_same, ?_, by rw [List.length_append, n]; rfl, fun e1 l1 h => ?_⟩
  · have k : Keeps H2 (upd H2 L (.lst (vs ++ [v]))) := keeps_lst (s _ _ e)
    exact (z.mono fun _ _ x => (x.keep (.of s)).keep k).snoc (hv.keep k)
  · rw [List.getElem?_append] at h
    split at h
    · exact f e1 l1 h
    · have e0 : e1 = i := by
        have := (List.getElem?_eq_some_iff.mp h).1
        rw [List.length_singleton] at this
        omega
      subst e0
      rw [n, Nat.sub_self] at h
      cases h
      exact r
theorem Acc.done {H : Hp} {L : Addr} {R : Nat → Poly → Prop} {n : Nat} (A : Acc H L R n) : ∃ vs row, H L = some (.lst vs) ∧ All2 (PolyAt H) vs row ∧ row.length = n ∧ ∀ e, e < n → R e (row.getD e []) := by
  obtain ⟨vs, ls, e, z, h, f⟩ := A.ex
  refine ⟨vs, ls, e, z, h, fun e1 he => f e1 _ ?_⟩
  rw [List.getD_eq_getElem?_getD, List.getElem?_eq_getElem (by omega)]
  rfl
section
variable {P : Program} {w : World} {K : PySem.W.Frag} {mg : Str → Option Value} {base : Heap}
theorem scLess : FnScope ["row", "other", "end", "prime", "by", "number", "one", "two"] ["row", "other", "end", "prime"] (defScope sLess) := ⟨rfl, rfl, rfl, by decide +kernel, rfl, by decide +kernel, by decide +kernel⟩
def spLess : L2.Sp := fun vs H Q _ => ∃ (vr vo : V) (e n : Nat) (p : Int) (row other : Row), vs = [vr, vo, .int (e : Nat), .int p] ∧ RowAt H vr row ∧ RowAt H vo other ∧ p ∈ PRIMES ∧ RowOk p n row ∧ RowOk p n other ∧ n ≤ 12 ∧ Short 12 row ∧ Short 12 other ∧ e < n ∧
  row.getD e [] ≠ [] ∧ other.getD e [] ≠ [] ∧ (other.getD e []).length ≤ (row.getD e []).length ∧
  ∀ H' v row' k, Same H H' → RowAt H' v row' → CombR p n row other k ((row.getD e []).length - (other.getD e []).length) row' → Cg p (cf (row.getD e []) ((row.getD e []).length - 1) + k * cf (other.getD e []) ((other.getD e []).length - 1)) 0 → Q v H'
theorem short_at {b : Nat} {row : Row} (h : Short b row) (e : Nat) : (row.getD e []).length ≤ b := by
  by_cases he : e < row.length
  · exact h _ (getD_mem he)
  · rw [List.getD_eq_getElem?_getD, List.getElem?_eq_none (by omega)]
    exact Nat.zero_le _
theorem kill {p a b u : Int} (h : Cg p (u * b) 1) : Cg p (a + (p - a * u % p) * b) 0 := by
  obtain ⟨c, hc⟩ := h
  obtain ⟨d, hd⟩ := Cg.emod p (a * u)
  rw [hd]
  refine ⟨b - a * c - d * b, ?_⟩
  grind
theorem ok_less (D : IsDef K mg "less_at" sLess ["row", "other", "end", "prime"]) (T : Blt mg) (CU : Ok P w K mg base 1 "undone" ["number", "prime"] spUndone) (CJ : Ok P w K mg base 2 "joined" ["one", "other", "number", "by", "prime"] spJoined) :
    Ok P w K mg base 3 "less_at" ["row", "other", "end", "prime"] spLess := by
  refine D.ok scLess (fun vs H Q E h => ?_) (fun f cdv A outer s H vs Q E hr h => ?_)
  · obtain ⟨vr, vo, e, n, p, row, other, rfl, _⟩ := h
    rfl
  · obtain ⟨vr, vo, e, n, p, row, other, rfl, hR, hO, hp, okR, okO, hn, shR, shO, he, nr, no, hle, q⟩ := h
    obtain ⟨a, vs, rfl, ha, hrow⟩ := id hR
    obtain ⟨b, ws, rfl, hb, hoth⟩ := id hO
    have p2 := prime_pos hp
    obtain ⟨x, hx, ⟨ax, rfl, hax⟩⟩ := hrow.getD_row (e := e) (by rw [okR.len]; exact he)
    obtain ⟨y, hy, ⟨ay, rfl, hay⟩⟩ := hoth.getD_row (e := e) (by rw [okO.len]; exact he)
    have r1 := cf_range (p := p) (by omega) (okR.at e) ((row.getD e []).length - 1)
    have r2 := cf_range (p := p) (by omega) (okO.at e) ((other.getD e []).length - 1)
    have r3 := cf_last (okO.at e) no
    have ru := und_range (p := p) (n := cf (other.getD e []) ((other.getD e []).length - 1)) hp
    have uok := und_ok (p := p) (n := cf (other.getD e []) ((other.getD e []).length - 1)) hp (by omega) r2.2
    have sl1 := short_at shR e
    have hr1 : Room 1 _ := hr.mono (by decide)
    refine ⟨_, pss_cons (ps_set (i := 4) scLess.nd rfl (Or.inr rfl) (pe_op op_sub (pe_callB call_len_seq (by rfl) T.len PySem.boot_len (pa_cons (pe_ix ix_tup (pv 0) (pv 2) (fun _ _ => rfl)) pa_nil)) (pe_callB call_len_seq (by rfl) T.len PySem.boot_len (pa_cons (pe_ix ix_tup (pv 1) (pv 2) (fun _ _ => rfl)) pa_nil))))
      (pss_cons (ps_set (i := 5) scLess.nd rfl (Or.inr rfl) (pe_op op_sub (pv 3) (pe_op op_mod (pe_op op_mul (pe_ix ix_tup (pe_ix ix_tup (pv 0) (pv 2) (fun _ _ => rfl)) (pe_un un_neg pe_int) (fun _ _ => rfl))
          (pe_c CU hr1 (by rfl) (pa_cons (pe_ix ix_tup (pe_ix ix_tup (pv 1) (pv 2) (fun _ _ => rfl)) (pe_un un_neg pe_int) (fun _ _ => rfl)) (pa_cons (pv 3) pa_nil)))) (pv 3))))
      (pss_one (ps_ret (pe_callTy call_tuple_of (by rfl) T.tuple (by decide +kernel) (pa_cons
        (pe_lc (own := [("one", 6), ("two", 7)]) (g := gTup K 2 (gCons (gName 6) (gCons (gName 7) gNil))) (tt := tYes) (by rfl) scLess.nd (RZ.pi_zipA rfl T.zip (pa_cons (pv 0) (pa_cons (pv 1) pa_nil)))
          (blkOk_by (own := [("one", 6), ("two", 7)]) (N := ["row", "other", "end", "prime", "by", "number", "one", "two"]) (sc := defScope sLess) (by decide +kernel))
          (fun _ _ _ _ _ => pg_tup rfl (pgs_cons (pg_name (i := 6) scLess.nd rfl (Or.inl rfl)) (pgs_cons (pg_name (i := 7) scLess.nd rfl (Or.inl rfl)) pgs_nil))) (fun _ _ _ _ _ => pts_nil)
          (fun _ _ _ _ _ => pe_c CJ hr (by rfl) (pa_cons (pv 6) (pa_cons (pv 7) (pa_cons (pv 5) (pa_cons (pv 4) (pa_cons (pv 3) pa_nil))))))) pa_nil))))), ?_⟩
    refine ⟨_, rfl, _, rfl, a, _, _, _, rfl, rfl, SqT.of ha, atI_nat hx, ax, _, rfl, .inr (SqT.of hax), ?_⟩
    refine ⟨_, rfl, _, rfl, b, _, _, _, rfl, rfl, SqT.of hb, atI_nat hy, ay, _, rfl, .inr (SqT.of hay), _, _, rfl, rfl, ?_⟩
    rw [List.length_map, List.length_map]
    refine ⟨_, rfl, _, rfl, _, rfl, a, _, _, _, rfl, rfl, SqT.of ha, atI_nat hx, 1, rfl, ax, _, -1, _, rfl, rfl, SqT.of hax, atI_lastI nr, ?_⟩
    refine ⟨_, rfl, _, rfl, b, _, _, _, rfl, rfl, SqT.of hb, atI_nat hy, 1, rfl, ay, _, -1, _, rfl, rfl, SqT.of hay, atI_lastI no, _, rfl, _, p, rfl, hp, ?_⟩
    refine ⟨_, _, rfl, rfl, .inl ⟨by omega, by omega⟩, _, rfl, _, _, rfl, rfl, (by omega), _, _, rfl, rfl, ?_⟩
    have rk0 := Int.emod_nonneg (cf (row.getD e []) ((row.getD e []).length - 1) * und (cf (other.getD e []) ((other.getD e []).length - 1)) p) (show p ≠ 0 by omega)
    have rk1 := Int.emod_lt_of_pos (cf (row.getD e []) ((row.getD e []).length - 1) * und (cf (other.getD e []) ((other.getD e []).length - 1)) p) (show 0 < p by omega)
    have kl := kill (p := p) (a := cf (row.getD e []) ((row.getD e []).length - 1)) uok
    generalize hk : p - cf (row.getD e []) ((row.getD e []).length - 1) * und (cf (other.getD e []) ((other.getD e []).length - 1)) p % p = k at kl
    refine ⟨_, rfl, _, rfl, a, b, vs, ws, rfl, .inr ⟨SqT.of ha, SqT.of hb, fun L hL => ?_⟩⟩
    refine lc_zipT (hrow.len.trans (okR.len.trans (okO.len.symm.trans hoth.len.symm))) (fun i H' => Same H H' ∧ i ≤ n ∧ Acc H' L (fun e1 l => Comb p (row.getD e1 []) (other.getD e1 []) k ((row.getD e []).length - (other.getD e []).length) l) i)
      ⟨same_new hL, Nat.zero_le _, Acc.start⟩ (fun i H' h => ⟨SqT.of (h.1 _ _ ha), SqT.of (h.1 _ _ hb)⟩) ?_ ?_
    · rintro i x y Tt H' hx1 hy1 ⟨sm, hi, A1⟩ hT
      obtain ⟨l1, hl1, x1⟩ := hrow.get hx1
      obtain ⟨l2, hl2, y1⟩ := hoth.get hy1
      have e1 : row.getD i [] = l1 := by rw [List.getD_eq_getElem?_getD, hl1]; rfl
      have e2 : other.getD i [] = l2 := by rw [List.getD_eq_getElem?_getD, hl2]; rfl
      have hin : i < n := by
        have := (List.getElem?_eq_some_iff.mp hl1).1
        have := okR.len
        omega
      have sT := same_new (o := .tup [x, y]) hT
      have c1 := okR.at i
      have s1 := short_at shR i
      have s2 := short_at shO i
      rw [e1] at c1 s1
      rw [e2] at s2
      refine ⟨Tt, _, rfl, SqT.of upd_same, rfl, _, _, rfl, _, _, rfl, rfl, rfl, ?_⟩
      refine ⟨_, rfl, _, rfl, _, rfl, _, rfl, _, rfl, x, y, k, p, (row.getD e []).length - (other.getD e []).length, l1, l2, ?_, x1.keep (.of (sm.trans sT)), y1.keep (.of (sm.trans sT)), by omega, c1.1, by omega, by omega, by omega, by omega, by omega, fun H2 v l s3 hv cb => ?_⟩
      · rw [← hk]
        show [x, y, V.int (p - _ % p), V.int (((row.getD e []).length : Int) - ((other.getD e []).length : Int)), V.int p] = _
        rw [show ((row.getD e []).length : Int) - ((other.getD e []).length : Int) = (((row.getD e []).length - (other.getD e []).length : Nat) : Int) by omega]
      · obtain ⟨acc, ea, la, A2⟩ := A1.snoc (sT.trans s3) hv (by rw [e1, e2]; exact cb)
        exact ⟨acc, ea, small1000 (by omega), same_upd2 hL ((sm.trans sT).trans s3), hin, A2⟩
    · rintro H' ⟨sm, hi, A1⟩
      rw [hrow.len, okR.len] at A1
      obtain ⟨vs1, row', eL, z, hlen, f⟩ := A1.done
      refine ⟨L, vs1, rfl, .inl ⟨SqL.of eL, fun t ht => ?_⟩⟩
      have st := same_new (o := .tup vs1) ht
      exact q _ _ row' k (sm.trans st) ⟨t, vs1, rfl, upd_same, z.mono fun _ _ x => x.keep (.of st)⟩ ⟨hlen, f⟩ kl
end
end K8

set_option Elab.async false
set_option linter.all false
namespace K8
/-! ### sizes -/
open Classical in
noncomputable def szf (p : Int) (f : Fn) : Nat := if h : ∃ n, Lead p f n then Classical.choose h + 1 else 0
theorem szf_lead {p : Int} {f : Fn} {n : Nat} (l : Lead p f n) : szf p f = n + 1 := by
  have h : ∃ n, Lead p f n := ⟨n, l⟩
  unfold szf
  rw [dif_pos h, (Classical.choose_spec h).uniq l]
theorem szf_le {p : Int} {f : Fn} {N : Nat} (h : ∀ m, N ≤ m → Cg p (f m) 0) : szf p f ≤ N := by
  unfold szf
  split
  · rename_i e
    have l := Classical.choose_spec e
    refine Nat.lt_of_not_le fun q => l.1 (h _ q)
  · exact Nat.zero_le _
/-- one row lessened by another of the same head -/
theorem rk_add {w e : Nat} {big small : Row} (ns : small.getD e [] ≠ []) (le : (small.getD e []).length ≤ (big.getD e []).length) : rk w big e = rk w small e + ((big.getD e []).length - (small.getD e []).length) * w := by
  have h := List.length_pos_iff.mpr ns
  unfold rk
  have : (big.getD e []).length - 1 = ((small.getD e []).length - 1) + ((big.getD e []).length - (small.getD e []).length) := by omega
  rw [this, Nat.add_mul]
  omega
theorem co_rk {w e : Nat} (row : Row) (h : e < w) : co w row (rk w row e) = cf (row.getD e []) ((row.getD e []).length - 1) := co_ix row _ h
theorem reduce {p : Int} {w e : Nat} {big small row' : Row} {k : Int} (hw : 0 < w) (he : e < w) (ns : small.getD e [] ≠ []) (le : (small.getD e []).length ≤ (big.getD e []).length) (LS : Lead p (co w small) (rk w small e)) {N : Nat} (hN : rk w big e ≤ N)
    (LB : ∀ m, N < m → Cg p (co w big m) 0) (C : CombR p w big small k ((big.getD e []).length - (small.getD e []).length) row')
    (z : Cg p (cf (big.getD e []) ((big.getD e []).length - 1) + k * cf (small.getD e []) ((small.getD e []).length - 1)) 0) :
    (∀ m, N < m → Cg p (co w row' m) 0) ∧ Cg p (co w row' (rk w big e)) 0 ∧ ∀ m, rk w big e < m → Cg p (co w row' m) (co w big m) := by
  have hb := rk_add (w := w) ns le
  have up : ∀ m, rk w big e < m → Cg p (co w row' m) (co w big m) := fun m hm => by
    refine (C.cfs hw m).trans (((Cg.refl p _).add (Cg.mulL k ?_)).trans (.of_eq (show co w big m + k * 0 = co w big m by omega)))
    rw [sh_ge (by omega)]
    exact LS.2 _ (by omega)
  refine ⟨fun m hm => (up m (by omega)).trans (LB m hm), ?_, up⟩
  refine (C.cfs hw _).trans ?_
  rw [sh_ge (by omega), show rk w big e - ((big.getD e []).length - (small.getD e []).length) * w = rk w small e by omega, co_rk big he, co_rk small he]
  exact z
theorem short_of {p : Int} (hp : 0 < p) {w : Nat} {row : Row} (ok : RowOk p w row) {N : Nat} (hN : N ≤ 12 * w) (z : ∀ m, N ≤ m → Cg p (co w row m) 0) : Short 12 row := fun l hl => by
  obtain ⟨e, he, rfl⟩ := List.getElem_of_mem hl
  have he' : e < w := ok.len ▸ he
  refine canon_len hp (ok.can _ hl) fun t ht => ?_
  have h1 : 12 * w ≤ t * w := Nat.mul_le_mul_right w ht
  have := z (t * w + e) (by omega)
  rw [co_ix row t he', List.getD_eq_getElem?_getD, List.getElem?_eq_getElem he] at this
  exact this
theorem rk_lt {w e : Nat} {row : Row} (he : e < w) (ne : row.getD e [] ≠ []) (sh : (row.getD e []).length ≤ 12) : rk w row e < 12 * w := by
  have h := List.length_pos_iff.mpr ne
  unfold rk
  have : ((row.getD e []).length - 1 + 1) * w ≤ 12 * w := Nat.mul_le_mul_right w (by omega)
  rw [Nat.add_mul] at this
  omega
/-! ### rows by their heads -/
abbrev Fnd := List (Nat × Row)
structure Good (p : Int) (w : Nat) (row : Row) : Prop where
  ok : RowOk p w row
  sh : Short 12 row
structure HeadIs (p : Int) (w : Nat) (e : Nat) (row : Row) : Prop where
  good : Good p w row
  lt : e < w
  ne : row.getD e [] ≠ []
  lead : Lead p (co w row) (rk w row e)
structure FOk (p : Int) (w : Nat) (F : Fnd) : Prop where
  nd : (F.map (·.1)).Nodup
  hd : ∀ x ∈ F, HeadIs p w x.1 x.2
theorem HeadIs.sz {p : Int} {w e : Nat} {row : Row} (h : HeadIs p w e row) : szf p (co w row) = rk w row e + 1 := szf_lead h.lead
theorem HeadIs.of {p : Int} (hp : 0 < p) {w e : Nat} {row : Row} (g : Good p w row) (he : e < w) (hn : row.getD e [] ≠ []) (top : ∀ e', e' < w → row.getD e' [] ≠ [] → rk w row e' ≤ rk w row e) : HeadIs p w e row := ⟨g, he, hn, lead_of hp g.ok he hn top⟩
/-- what less_at gives of two rows of one head -/
structure Lessened (p : Int) (w : Nat) (big small row' : Row) (e : Nat) : Prop where
  good : Good p w row'
  sz : szf p (co w row') ≤ rk w big e
  eqv : ∀ a : List Row, small ∈ a → Eqv p w (row' :: a) (big :: a)
theorem Lessened.of {p : Int} (hp : 0 < p) {w e : Nat} {big small row' : Row} {k : Int} (hB : HeadIs p w e big) (hS : HeadIs p w e small) (le : (small.getD e []).length ≤ (big.getD e []).length)
    (C : CombR p w big small k ((big.getD e []).length - (small.getD e []).length) row') (z : Cg p (cf (big.getD e []) ((big.getD e []).length - 1) + k * cf (small.getD e []) ((small.getD e []).length - 1)) 0) : Lessened p w big small row' e := by
  have hw : 0 < w := Nat.lt_of_le_of_lt (Nat.zero_le _) hB.lt
  obtain ⟨h1, h2, _⟩ := reduce hw hB.lt hS.ne le hS.lead (Nat.le_refl _) hB.lead.2 C z
  have top : ∀ m, rk w big e ≤ m → Cg p (co w row' m) 0 := fun m hm => by
    by_cases q : m = rk w big e
    · rw [q]
      exact h2
    · exact h1 m (by omega)
  refine ⟨⟨C.ok, short_of hp C.ok (Nat.le_of_lt (rk_lt hB.lt hB.ne (by
    have := hB.lt
    have l := hB.good.ok.len
    exact hB.good.sh _ (getD_mem (by omega))))) top⟩, szf_le top, fun a ha => ?_⟩
  exact Eqv.repl (d := fun n => k * sh (((big.getD e []).length - (small.getD e []).length) * w) (co w small) n) (Sp.smul (Sl.mem ha) k _ fun n => .refl _ _) (C.cfs hw)
/-- a row put at its head -/
def rput (F : Fnd) (e : Nat) (r : Row) : Fnd := F.map fun x => if x.1 = e then (e, r) else x
theorem rput_keys (F : Fnd) (e : Nat) (r : Row) : (rput F e r).map (·.1) = F.map (·.1) := by
  unfold rput
  rw [List.map_map]
  refine List.map_congr_left fun x _ => ?_
  show (if x.1 = e then (e, r) else x).1 = x.1
  split
  · rename_i h; exact h.symm
  · rfl
theorem rput_mem {F : Fnd} {e : Nat} {r : Row} {x : Nat × Row} (h : x ∈ rput F e r) : x = (e, r) ∨ (x ∈ F ∧ x.1 ≠ e) := by
  obtain ⟨y, hy, rfl⟩ := List.mem_map.mp h
  by_cases q : y.1 = e
  · rw [if_pos q]
    exact .inl rfl
  · rw [if_neg q]
    exact .inr ⟨hy, q⟩
theorem rput_in {F : Fnd} {e : Nat} {r g : Row} (h : (e, g) ∈ F) : (e, r) ∈ rput F e r := List.mem_map.mpr ⟨_, h, if_pos rfl⟩
theorem rput_out {F : Fnd} {e : Nat} {r : Row} {x : Nat × Row} (h : x ∈ F) (n : x.1 ≠ e) : x ∈ rput F e r := List.mem_map.mpr ⟨x, h, if_neg n⟩
theorem key_inj {F : Fnd} (nd : (F.map (·.1)).Nodup) {x y : Nat × Row} (hx : x ∈ F) (hy : y ∈ F) (e : x.1 = y.1) : x = y := by
  induction F with
  | nil => nomatch hx
  | cons a r ih =>
    rw [List.map_cons, List.nodup_cons] at nd
    rcases List.mem_cons.mp hx with q | hx
    · rcases List.mem_cons.mp hy with q' | hy
      · rw [q, q']
      · exact absurd (List.mem_map.mpr ⟨y, hy, by rw [← e, q]⟩) nd.1
    · rcases List.mem_cons.mp hy with q' | hy
      · exact absurd (List.mem_map.mpr ⟨x, hx, by rw [e, q']⟩) nd.1
      · exact ih nd.2 hx hy
theorem FOk.put {p : Int} {w : Nat} {F : Fnd} (h : FOk p w F) {e : Nat} {r : Row} (hr : HeadIs p w e r) : FOk p w (rput F e r) := ⟨by rw [rput_keys]; exact h.nd, fun x hx => by
  rcases rput_mem hx with rfl | ⟨hx, _⟩
  · exact hr
  · exact h.hd x hx⟩
theorem FOk.new {p : Int} {w : Nat} {F : Fnd} (h : FOk p w F) {e : Nat} {r : Row} (hr : HeadIs p w e r) (n : e ∉ F.map (·.1)) : FOk p w (F ++ [(e, r)]) := ⟨by
  rw [List.map_append, List.nodup_append]
  refine ⟨h.nd, by simp, fun a ha b hb => ?_⟩
  have hb' : b = e := by simpa using hb
  intro q
  exact n (by rw [← hb', ← q]; exact ha), fun x hx => by
  rcases List.mem_append.mp hx with hx | hx
  · exact h.hd x hx
  · rw [List.mem_singleton] at hx
    subst hx
    exact hr⟩
noncomputable def sumF (p : Int) (w : Nat) (F : Fnd) : Nat := (F.map fun x => szf p (co w x.2)).sum
noncomputable def sumW (p : Int) (w : Nat) (l : List Row) : Nat := (l.map fun x => szf p (co w x) + 1).sum
theorem sumF_put {p : Int} {w : Nat} {F : Fnd} (nd : (F.map (·.1)).Nodup) {e : Nat} {g r : Row} (h : (e, g) ∈ F) : sumF p w (rput F e r) + szf p (co w g) = sumF p w F + szf p (co w r) := by
  induction F with
  | nil => nomatch h
  | cons a s ih =>
    rw [List.map_cons, List.nodup_cons] at nd
    unfold sumF rput
    rw [List.map_cons, List.map_cons, List.sum_cons, List.map_cons, List.sum_cons]
    by_cases q : a.1 = e
    · have : a = (e, g) := by
        rcases List.mem_cons.mp h with z | z
        · exact z.symm
        · exact absurd (List.mem_map.mpr ⟨_, z, q.symm⟩) nd.1
      have same : s.map (fun x => if x.1 = e then (e, r) else x) = s := by
        refine (List.map_congr_left fun x hx => ?_).trans (List.map_id s)
        show (if x.1 = e then (e, r) else x) = id x
        rw [if_neg]
        · rfl
        · intro z
          exact nd.1 (List.mem_map.mpr ⟨x, hx, z.trans q.symm⟩)
      rw [if_pos q, same, this]
      show szf p (co w r) + _ + szf p (co w g) = szf p (co w g) + _ + szf p (co w r)
      omega
    · rw [if_neg q]
      have hs : (e, g) ∈ s := by
        rcases List.mem_cons.mp h with z | z
        · exact absurd (by rw [← z]) q
        · exact z
      have := ih nd.2 hs
      unfold sumF rput at this
      omega
theorem sumF_new {p : Int} {w : Nat} {F : Fnd} {e : Nat} {r : Row} : sumF p w (F ++ [(e, r)]) = sumF p w F + szf p (co w r) := by
  unfold sumF
  rw [List.map_append, List.sum_append]
  simp
theorem sumW_snoc {p : Int} {w : Nat} {l : List Row} {r : Row} : sumW p w (l ++ [r]) = sumW p w l + (szf p (co w r) + 1) := by
  unfold sumW
  rw [List.map_append, List.sum_append]
  simp
abbrev rowsF (F : Fnd) : List Row := F.map (·.2)
/-- the rows but the one at e -/
def others (F : Fnd) (e : Nat) : List Row := (F.filter fun x => decide (x.1 ≠ e)).map (·.2)
theorem mem_others {F : Fnd} {e : Nat} {r : Row} : r ∈ others F e ↔ ∃ x ∈ F, x.1 ≠ e ∧ x.2 = r := by
  unfold others
  constructor
  · intro h
    obtain ⟨x, hx, rfl⟩ := List.mem_map.mp h
    obtain ⟨h1, h2⟩ := List.mem_filter.mp hx
    exact ⟨x, h1, of_decide_eq_true h2, rfl⟩
  · rintro ⟨x, h1, h2, rfl⟩
    exact List.mem_map.mpr ⟨x, List.mem_filter.mpr ⟨h1, decide_eq_true h2⟩, rfl⟩
theorem rows_split {F : Fnd} (nd : (F.map (·.1)).Nodup) {e : Nat} {g : Row} (h : (e, g) ∈ F) (r : Row) : r ∈ rowsF F ↔ r ∈ g :: others F e := by
  rw [List.mem_cons, mem_others]
  constructor
  · intro hr
    obtain ⟨x, hx, rfl⟩ := List.mem_map.mp hr
    by_cases q : x.1 = e
    · exact .inl (by rw [key_inj nd hx h q])
    · exact .inr ⟨x, hx, q, rfl⟩
  · rintro (rfl | ⟨x, h1, h2, rfl⟩)
    · exact List.mem_map.mpr ⟨_, h, rfl⟩
    · exact List.mem_map.mpr ⟨x, h1, rfl⟩
theorem others_put {F : Fnd} {e : Nat} {r x : Row} : x ∈ others (rput F e r) e ↔ x ∈ others F e := by
  rw [mem_others, mem_others]
  constructor
  · rintro ⟨y, hy, n, rfl⟩
    rcases rput_mem hy with rfl | ⟨h, _⟩
    · exact absurd rfl n
    · exact ⟨y, h, n, rfl⟩
  · rintro ⟨y, hy, n, rfl⟩
    exact ⟨y, rput_out hy n, n, rfl⟩
/-! ### the three turns of unlike_heads -/
section
variable {p : Int} {w : Nat} {F : Fnd} {wait rows : List Row} {r : Row}
theorem turn_zero (z : ∀ n, Cg p (co w r n) 0) (h : Eqv p w (rowsF F ++ (wait ++ [r])) rows) : Eqv p w (rowsF F ++ wait) rows :=
  ((Eqv.zero z (a := rowsF F ++ wait)).symm.trans (.of_mem fun x => by simp only [List.mem_cons, List.mem_append, List.not_mem_nil, or_false]; constructor <;> (intro h; rcases h with h | h | h <;> simp [h]))).trans h
theorem turn_new {e : Nat} (h : Eqv p w (rowsF F ++ (wait ++ [r])) rows) : Eqv p w (rowsF (F ++ [(e, r)]) ++ wait) rows :=
  (Eqv.of_mem fun x => by
    unfold rowsF
    rw [List.map_append]
    simp only [List.mem_append, List.map_cons, List.map_nil, List.mem_singleton]
    constructor
    · rintro ((h | h) | h) <;> simp [h]
    · rintro (h | h | h) <;> simp [h]).trans h
/-- the row is lessened by what was found -/
theorem turn_keep {e : Nat} {g r' : Row} (hg : (e, g) ∈ F) (L : Lessened p w r g r' e) (h : Eqv p w (rowsF F ++ (wait ++ [r])) rows) : Eqv p w (rowsF F ++ (wait ++ [r'])) rows := by
  have e1 := L.eqv (rowsF F ++ wait) (List.mem_append_left _ (List.mem_map.mpr ⟨_, hg, rfl⟩))
  have mv : ∀ x : Row, Eqv p w (rowsF F ++ (wait ++ [x])) (x :: (rowsF F ++ wait)) := fun x => .of_mem fun y => by
    simp only [List.mem_cons, List.mem_append, List.not_mem_nil, or_false]
    constructor
    · rintro (h | h | h) <;> simp [h]
    · rintro (h | h | h) <;> simp [h]
  exact (mv r').trans (e1.trans ((mv r).symm.trans h))
/-- the row takes the place of what was found, and that is lessened by it -/
theorem turn_swap {e : Nat} {g r' : Row} (nd : (F.map (·.1)).Nodup) (hg : (e, g) ∈ F) (L : Lessened p w g r r' e) (h : Eqv p w (rowsF F ++ (wait ++ [r])) rows) : Eqv p w (rowsF (rput F e r) ++ (wait ++ [r'])) rows := by
  have e1 := L.eqv (r :: (others F e ++ wait)) List.mem_cons_self
  have m1 : ∀ y, y ∈ rowsF F ++ (wait ++ [r]) ↔ y ∈ g :: r :: (others F e ++ wait) := fun y => by
    rw [List.mem_append, rows_split nd hg]
    simp only [List.mem_cons, List.mem_append, List.not_mem_nil, or_false]
    constructor
    · rintro ((h | h) | h | h) <;> simp [h]
    · rintro (h | h | h | h) <;> simp [h]
  have nd2 : ((rput F e r).map (·.1)).Nodup := by rw [rput_keys]; exact nd
  have m2 : ∀ y, y ∈ rowsF (rput F e r) ++ (wait ++ [r']) ↔ y ∈ r' :: r :: (others F e ++ wait) := fun y => by
    rw [List.mem_append, rows_split nd2 (rput_in hg)]
    simp only [List.mem_cons, List.mem_append, List.not_mem_nil, or_false, others_put]
    constructor
    · rintro ((h | h) | h | h) <;> simp [h]
    · rintro (h | h | h | h) <;> simp [h]
  exact (Eqv.of_mem m2).trans (e1.trans ((Eqv.of_mem m1).symm.trans h))
end
end K8

set_option Elab.async false
set_option linter.all false
set_option maxRecDepth 100000
set_option maxHeartbeats 4000000
namespace K8
open PySem PySem.Spec PyProof.Rows L2
abbrev sUnlike : Stmt := topS 23
theorem HdTo.none {p : Int} {w : Nat} {row : Row} (hw : 0 < w) (h : HdTo w row w .non) (n : Nat) : Cg p (co w row n) 0 := by
  rcases h with ⟨_, h⟩ | ⟨e, h, _⟩
  · exact none_of hw h n
  · cases h
theorem HdTo.some {p : Int} (hp : 0 < p) {w e : Nat} {row : Row} (g : Good p w row) (h : HdTo w row w (.int (e : Nat))) : HeadIs p w e row := by
  rcases h with ⟨h, _⟩ | ⟨e', h, h1, h2, h3⟩
  · cases h
  · have : e = e' := by
      have := V.int.inj h
      omega
    subst this
    exact .of hp g h1 h2 h3
theorem HdTo.cases {w : Nat} {row : Row} {v : V} (h : HdTo w row w v) : v = .non ∨ ∃ e : Nat, v = .int (e : Nat) ∧ e < w := by
  rcases h with ⟨h, _⟩ | ⟨e', h, h1, _⟩
  · exact .inl h
  · exact .inr ⟨e', h, h1⟩
/-! ### dicts of rows by ends -/
def DOf (H : Hp) (kvs : List (Key × V)) (F : Fnd) : Prop := All2 (fun (kv : Key × V) (x : Nat × Row) => kv.1 = Sum.inl (x.1 : Int) ∧ RowAt H kv.2 x.2) kvs F
theorem DOf.keep {H H' : Hp} {kvs : List (Key × V)} {F : Fnd} (h : DOf H kvs F) (k : Keeps H H') : DOf H' kvs F := All2.mono (fun _ _ x => ⟨x.1, x.2.keep k⟩) h
theorem inl_ne {a b : Nat} (h : a ≠ b) : ¬ (Sum.inl (a : Int) : Key) = Sum.inl (b : Int) := fun z => h (by
  have := Sum.inl.inj z
  omega)
theorem DOf.get {H : Hp} : ∀ {kvs : List (Key × V)} {F : Fnd} {e : Nat} {g : Row}, DOf H kvs F → (F.map (·.1)).Nodup → (e, g) ∈ F → ∃ v, valV kvs (Sum.inl (e : Int)) = some v ∧ RowAt H v g
  | [], [], _, _, _, _, h => nomatch h
  | kv :: kvs, x :: F, e, g, d, nd, h => by
    rw [List.map_cons, List.nodup_cons] at nd
    by_cases q : x.1 = e
    · have : x = (e, g) := by
        rcases List.mem_cons.mp h with z | z
        · exact z.symm
        · exact absurd (List.mem_map.mpr ⟨_, z, q.symm⟩) nd.1
      subst this
      exact ⟨kv.2, valV_pos d.1.1, d.1.2⟩
    · have hs : (e, g) ∈ F := by
        rcases List.mem_cons.mp h with z | z
        · exact absurd (by rw [← z]) q
        · exact z
      obtain ⟨v, h1, h2⟩ := DOf.get d.2 nd.2 hs
      exact ⟨v, by rw [valV_neg (by rw [d.1.1]; exact inl_ne q)]; exact h1, h2⟩
  | [], _ :: _, _, _, d, _, _ => d.elim
  | _ :: _, [], _, _, d, _, _ => d.elim
theorem DOf.no {H : Hp} : ∀ {kvs : List (Key × V)} {F : Fnd} {e : Nat}, DOf H kvs F → e ∉ F.map (·.1) → valV kvs (Sum.inl (e : Int)) = none
  | [], [], _, _, _ => rfl
  | kv :: kvs, x :: F, e, d, n => by
    rw [List.map_cons, List.mem_cons] at n
    rw [valV_neg (by rw [d.1.1]; exact inl_ne fun z => n (.inl z.symm))]
    exact DOf.no d.2 fun z => n (.inr z)
  | [], _ :: _, _, d, _ => d.elim
  | _ :: _, [], _, d, _ => d.elim
theorem DOf.new {H : Hp} {kvs : List (Key × V)} {F : Fnd} {e : Nat} {v : V} {r : Row} (d : DOf H kvs F) (n : e ∉ F.map (·.1)) (hv : RowAt H v r) : DOf H (putK kvs (Sum.inl (e : Int)) v) (F ++ [(e, r)]) := by
  rw [putK_new _ (d.no n)]
  exact All2.snoc d ⟨rfl, hv⟩
theorem DOf.mapput {H : Hp} : ∀ {kvs : List (Key × V)} {F : Fnd} {e : Nat} {v : V} {r : Row}, DOf H kvs F → RowAt H v r → DOf H (kvs.map fun kv => if kv.1 = Sum.inl (e : Int) then (kv.1, v) else kv) (rput F e r)
  | [], [], _, _, _, _, _ => trivial
  | kv :: kvs, x :: F, e, v, r, d, hv => by
    refine ⟨?_, DOf.mapput d.2 hv⟩
    by_cases q : x.1 = e
    · show (if kv.1 = Sum.inl (e : Int) then (kv.1, v) else kv).1 = Sum.inl ((if x.1 = e then (e, r) else x).1 : Int) ∧ RowAt H (if kv.1 = Sum.inl (e : Int) then (kv.1, v) else kv).2 (if x.1 = e then (e, r) else x).2
      rw [if_pos q, if_pos (by rw [d.1.1, q])]
      exact ⟨by rw [d.1.1, q], hv⟩
    · show (if kv.1 = Sum.inl (e : Int) then (kv.1, v) else kv).1 = Sum.inl ((if x.1 = e then (e, r) else x).1 : Int) ∧ RowAt H (if kv.1 = Sum.inl (e : Int) then (kv.1, v) else kv).2 (if x.1 = e then (e, r) else x).2
      rw [if_neg q, if_neg (by rw [d.1.1]; exact inl_ne q)]
      exact d.1
  | [], _ :: _, _, _, _, d, _ => d.elim
  | _ :: _, [], _, _, _, d, _ => d.elim
theorem DOf.put {H : Hp} {kvs : List (Key × V)} {F : Fnd} {e : Nat} {v : V} {g r : Row} (d : DOf H kvs F) (nd : (F.map (·.1)).Nodup) (h : (e, g) ∈ F) (hv : RowAt H v r) : DOf H (putK kvs (Sum.inl (e : Int)) v) (rput F e r) := by
  obtain ⟨u, hu, _⟩ := d.get nd h
  have e1 : putK kvs (Sum.inl (e : Int)) v = kvs.map fun kv => if kv.1 = Sum.inl (e : Int) then (kv.1, v) else kv := by
    unfold putK
    rw [valV_any, hu]
    rfl
  rw [e1]
  exact d.mapput hv
theorem DOf.len {H : Hp} {kvs : List (Key × V)} {F : Fnd} (d : DOf H kvs F) : kvs.length = F.length := All2.len d
theorem pigeon : ∀ (w : Nat) (l : List Nat), l.Nodup → (∀ x ∈ l, x < w) → l.length ≤ w
  | 0, [], _, _ => Nat.le_refl _
  | 0, x :: _, _, h => absurd (h x List.mem_cons_self) (Nat.not_lt_zero _)
  | w + 1, l, nd, h => by
    by_cases q : w ∈ l
    · have := pigeon w (l.erase w) (nd.erase w) fun x hx => by
        have h1 := (nd.mem_erase_iff).mp hx
        have := h x h1.2
        have := h1.1
        omega
      rw [List.length_erase_of_mem q] at this
      omega
    · have := pigeon w l nd fun x hx => by
        have h1 := h x hx
        have h2 : x ≠ w := fun z => q (z ▸ hx)
        omega
      omega
theorem FOk.few {p : Int} {w : Nat} {F : Fnd} (h : FOk p w F) : F.length ≤ w := by
  have := pigeon w (F.map (·.1)) h.nd fun x hx => by
    obtain ⟨y, hy, rfl⟩ := List.mem_map.mp hx
    exact (h.hd y hy).lt
  rwa [List.length_map] at this
theorem set_dict {X : Cx} (hu : X.A.units + 1 < cLine) : PSet X (fun o i v H Q => ∃ a H', o = .ref a ∧ DPut H a i v H' ∧ Q H') := by
  intro pins s σ H o i v ov iv u Q I ro ri rv h
  obtain ⟨a, H', rfl, g, q⟩ := h
  cases ro
  exact d_setItem hu I g ri rv fun s' I' => ⟨H', I', q⟩
section
variable {P : Program} {w : World} {K : PySem.W.Frag} {mg : Str → Option Value} {base : Heap}
theorem scLevel : FnScope ["row", "end", "prime", "by", "one"] ["row", "end", "prime"] (defScope sLevel) := ⟨rfl, rfl, rfl, by decide +kernel, rfl, by decide +kernel, by decide +kernel⟩
def spLevel : L2.Sp := fun vs H Q _ => ∃ (vr : V) (e n : Nat) (p : Int) (row : Row), vs = [vr, .int (e : Nat), .int p] ∧ RowAt H vr row ∧ p ∈ PRIMES ∧ RowOk p n row ∧ n ≤ 12 ∧ Short 12 row ∧ e < n ∧ row.getD e [] ≠ [] ∧
  ∀ H' v row' k, Same H H' → RowAt H' v row' → CombR p n [] row k 0 row' → Cg p (k * cf (row.getD e []) ((row.getD e []).length - 1)) 1 → Q v H'
theorem ok_level (D : IsDef K mg "level_at" sLevel ["row", "end", "prime"]) (T : Blt mg) (CU : Ok P w K mg base 1 "undone" ["number", "prime"] spUndone) (CJ : Ok P w K mg base 2 "joined" ["one", "other", "number", "by", "prime"] spJoined) :
    Ok P w K mg base 3 "level_at" ["row", "end", "prime"] spLevel := by
  refine D.ok scLevel (fun vs H Q E h => ?_) (fun f cdv A outer s H vs Q E hr h => ?_)
  · obtain ⟨vr, e, n, p, row, rfl, _⟩ := h
    rfl
  · obtain ⟨vr, e, n, p, row, rfl, hR, hp, okR, hn, shR, he, nr, q⟩ := h
    obtain ⟨a, vs, rfl, ha, hrow⟩ := id hR
    have p2 := prime_pos hp
    obtain ⟨x, hx, ⟨ax, rfl, hax⟩⟩ := hrow.getD_row (e := e) (by rw [okR.len]; exact he)
    have r1 := cf_range (p := p) (by omega) (okR.at e) ((row.getD e []).length - 1)
    have r3 := cf_last (okR.at e) nr
    have ru := und_range (p := p) (n := cf (row.getD e []) ((row.getD e []).length - 1)) hp
    have uok := und_ok (p := p) (n := cf (row.getD e []) ((row.getD e []).length - 1)) hp (by omega) r1.2
    have sl1 := short_at shR e
    have hr1 : Room 1 _ := hr.mono (by decide)
    refine ⟨_, pss_cons (ps_set (i := 3) scLevel.nd rfl (Or.inr rfl) (pe_c CU hr1 (by rfl) (pa_cons (pe_ix ix_tup (pe_ix ix_tup (pv 0) (pv 1) (fun _ _ => rfl)) (pe_un un_neg pe_int) (fun _ _ => rfl)) (pa_cons (pv 2) pa_nil))))
      (pss_one (ps_ret (pe_callTy call_tuple_of (by rfl) T.tuple (by decide +kernel) (pa_cons
        (pe_lc (own := [("one", 4)]) (g := gName 4) (tt := tYes) (by rfl) scLevel.nd (pi_tup (pv 0)) (blkOk_by (own := [("one", 4)]) (N := ["row", "end", "prime", "by", "one"]) (sc := defScope sLevel) (by decide +kernel))
          (fun _ _ _ _ _ => pg_name (i := 4) scLevel.nd rfl (Or.inl rfl)) (fun _ _ _ _ _ => pts_nil)
          (fun _ _ _ _ _ => pe_c CJ hr (by rfl) (pa_cons (pe_tup pa_nil) (pa_cons (pv 4) (pa_cons (pv 3) (pa_cons pe_int (pa_cons (pv 2) pa_nil))))))) pa_nil)))), ?_⟩
    refine ⟨_, rfl, _, rfl, a, _, _, _, rfl, rfl, SqT.of ha, atI_nat hx, 1, rfl, ax, _, -1, _, rfl, rfl, SqT.of hax, atI_lastI nr, _, rfl, _, p, rfl, hp, ?_⟩
    generalize und (cf (row.getD e []) ((row.getD e []).length - 1)) p = k at ru uok
    refine ⟨_, rfl, a, rfl, ⟨_, SqT.of ha⟩, fun L hL => ?_⟩
    refine lc_tup (xs := vs) (fun i H' => Same H H' ∧ i ≤ n ∧ Acc H' L (fun e1 l => Comb p [] (row.getD e1 []) k 0 l) i)
      ⟨same_new hL, Nat.zero_le _, Acc.start⟩ (fun i H' _ h => SqT.of (h.1 _ _ ha)) ?_ ?_
    · rintro i x H' hx1 ⟨sm, hi, A1⟩
      obtain ⟨l1, hl1, x1⟩ := hrow.get hx1
      have e1 : row.getD i [] = l1 := by rw [List.getD_eq_getElem?_getD, hl1]; rfl
      have hin : i < n := by
        have := (List.getElem?_eq_some_iff.mp hl1).1
        have := okR.len
        omega
      have s1 := short_at shR i
      rw [e1] at s1
      refine ⟨rfl, ?_⟩
      refine ⟨Nat.zero_le _, fun t ht => ?_⟩
      have sT := same_new (o := .tup []) ht
      refine ⟨_, rfl, _, rfl, _, rfl, .ref t, x, k, p, 0, [], l1, rfl, ⟨t, rfl, upd_same⟩, x1.keep (.of (sm.trans sT)), by omega, fun x h => (nomatch h), by omega, by omega, by show 0 ≤ 1000; omega, by omega, by omega, fun H2 v l s3 hv cb => ?_⟩
      obtain ⟨acc, ea, la, A2⟩ := A1.snoc (sT.trans s3) hv (by rw [e1]; exact cb)
      exact ⟨acc, ea, small1000 (by omega), same_upd2 hL ((sm.trans sT).trans s3), hin, A2⟩
    · rintro H' ⟨sm, hi, A1⟩
      rw [hrow.len, okR.len] at A1
      obtain ⟨vs1, row', eL, z, hlen, f⟩ := A1.done
      refine ⟨L, vs1, rfl, .inl ⟨SqL.of eL, fun t ht => ?_⟩⟩
      have st := same_new (o := .tup vs1) ht
      exact q _ _ row' k (sm.trans st) ⟨t, vs1, rfl, upd_same, z.mono fun _ _ x => x.keep (.of st)⟩ ⟨hlen, f⟩ uok
end
end K8

set_option Elab.async false
set_option linter.all false
set_option maxRecDepth 100000
set_option maxHeartbeats 4000000
namespace K8
open PySem PySem.Spec PyProof.Rows L2
theorem All2.snoc_inv {α β : Type} {R : α → β → Prop} : ∀ {as : List α} {bs : List β} {b : β}, All2 R as (bs ++ [b]) → ∃ as' a, as = as' ++ [a] ∧ All2 R as' bs ∧ R a b
  | [], [], _, h => h.elim
  | [], _ :: _, _, h => h.elim
  | [a], [], b, h => ⟨[], a, rfl, trivial, h.1⟩
  | _ :: _ :: _, [], _, h => h.2.elim
  | a :: as, c :: bs, b, h => by
    obtain ⟨as', x, e, h1, h2⟩ := All2.snoc_inv (as := as) (bs := bs) h.2
    exact ⟨a :: as', x, by rw [e]; rfl, ⟨h.1, h1⟩, h2⟩
/-- the rows as a list or a tuple -/
def RowsAt (K : PySem.W.Frag) (H : Hp) (v : V) (rows : List Row) : Prop := ∃ a vs, v = .ref a ∧ (SqL K H a vs ∨ SqT K H a vs) ∧ All2 (RowAt H) vs rows
def DictAt (H : Hp) (d : Addr) (F : Fnd) : Prop := ∃ kvs, H d = some (.dK kvs) ∧ DOf H kvs F
/-- the state of unlike_heads -/
def UI (p : Int) (n : Nat) (rows : List Row) (H0 : Hp) (d lw : Addr) (m : Nat) (H : Hp) : Prop :=
  ∃ (F : Fnd) (wait : List Row) (kvs : List (Key × V)) (ws : List V), Same H0 H ∧ H d = some (.dK kvs) ∧ DOf H kvs F ∧ H lw = some (.lst ws) ∧ All2 (RowAt H) ws wait ∧ FOk p n F ∧ (∀ r ∈ wait, Good p n r) ∧ Eqv p n (rowsF F ++ wait) rows ∧ wait.length ≤ 12 ∧ m = sumF p n F + sumW p n wait
section
variable {P : Program} {w : World} {K : PySem.W.Frag} {mg : Str → Option Value} {base : Heap}
theorem scUnlike : FnScope ["rows", "order", "prime", "found", "waiting", "row", "end"] ["rows", "order", "prime"] (defScope sUnlike) := ⟨rfl, rfl, rfl, by decide +kernel, rfl, by decide +kernel, by decide +kernel⟩
def spUnlike (K : PySem.W.Frag) : L2.Sp := fun vs H Q _ => ∃ (vr vo : V) (n : Nat) (p : Int) (rows : List Row), vs = [vr, vo, .int p] ∧ RowsAt K H vr rows ∧ OrderAt H vo n ∧ p ∈ PRIMES ∧ 0 < n ∧ n ≤ 12 ∧ rows.length ≤ 12 ∧ (∀ r ∈ rows, Good p n r) ∧
  ∀ H' d F, Same H H' → H d = none → DictAt H' d F → FOk p n F → Eqv p n (rowsF F) rows → Q (.ref d) H'
theorem ok_unlike (D : IsDef K mg "unlike_heads" sUnlike ["rows", "order", "prime"]) (T : Blt mg) (CH : Ok P w K mg base 2 "head_of" ["row", "order"] spHead) (CL : Ok P w K mg base 3 "less_at" ["row", "other", "end", "prime"] spLess) :
    Ok P w K mg base 4 "unlike_heads" ["rows", "order", "prime"] (spUnlike K) := by
  refine D.ok scUnlike (fun vs H Q E h => ?_) (fun f cdv A outer s H vs Q E hr h => ?_)
  · obtain ⟨vr, vo, n, p, rows, rfl, _⟩ := h
    rfl
  · obtain ⟨vr, vo, n, p, rows, rfl, ⟨a, vs, rfl, ha, hrows⟩, hO, hp, hn0, hn, hlen, hg, q⟩ := h
    have p2 := prime_pos hp
    have pp : 0 < p := by omega
    have hu := hu_of hr
    have hr2 : Room 2 _ := hr.mono (by decide)
    refine ⟨_, pss_cons (ps_set (i := 3) scUnlike.nd rfl (.inl rfl) pe_dnewK)
      (pss_cons (ps_set (i := 4) scUnlike.nd rfl (.inl rfl) (pe_callTy call_list_of (by rfl) T.list (by decide +kernel) (pa_cons (pv 0) pa_nil)))
      (pss_cons (ps_while PassesOwn.never (pt_cmpR (op_neD hr.units) (pv 4) (pe_lst pa_nil) (nomark _))
        (pss_cons (ps_set (i := 5) scUnlike.nd rfl (.inl rfl) (pe_bm0 PySem.F.plainAttrs_list PySem.F.slot_list_pop PySem.F.type_list_pop mt_pop (pv 4)))
        (pss_cons (ps_set (i := 6) scUnlike.nd rfl (.inl rfl) (pe_c CH hr2 (by rfl) (pa_cons (pv 5) (pa_cons (pv 1) pa_nil))))
        (pss_one (ps_if (PW.pt (pw_and (pt_cmpR op_notN (pv 6) pe_non (nomark _)) (pw_and1 (pt_cmp (pc_dnotin hu (pv 6) (pv 3))))))
          (pss_one (ps_dput hu (pv 3) (pv 6) (pv 5) rfl))
          (pss_one (ps_if (pt_cmpR op_notN (pv 6) pe_non (nomark _))
            (pss_cons (ps_if (pt_cmpR op_lt (pe_callB call_len_seq (by rfl) T.len PySem.boot_len (pa_cons (pe_ix ix_tup (pv 5) (pv 6) (fun _ _ => rfl)) pa_nil)) (pe_callB call_len_seq (by rfl) T.len PySem.boot_len (pa_cons (pe_ix ix_tup (pe_dget hu (pv 3) (pv 6) (fun _ _ => rfl)) (pv 6) (fun _ _ => rfl)) pa_nil)) (nomark _))
                (pss_one (ps_asg (pe_tup (pa_cons (pv 5) (pa_cons (pe_dget hu (pv 3) (pv 6) (fun _ _ => rfl)) pa_nil))) (pg_tup rfl (pgs_cons (pg_sub (pv 3) (pv 6) (set_dict hu)) (pgs_cons (pg_name (i := 5) scUnlike.nd rfl (.inl rfl)) pgs_nil))))) pss_nil)
              (pss_one (ps_expr (pe_bm PySem.F.plainAttrs_list PySem.F.slot_list_append PySem.F.type_list_append mt_append (pv 4) (pa_cons (pe_c CL hr (by rfl) (pa_cons (pv 5) (pa_cons (pe_dget hu (pv 3) (pv 6) (fun _ _ => rfl)) (pa_cons (pv 6) (pa_cons (pv 2) pa_nil))))) pa_nil)))))
            pss_nil)))))))
      (pss_one (ps_ret (pv 3))))), ?_⟩
    intro d hd
    have s1 := same_new (o := .dK []) hd
    refine ⟨_, rfl, a, vs, rfl, ha.imp s1.seq (fun h => by
      rcases h with (h | ⟨o, h⟩) | h
      · exact .inl (.inl (s1 _ _ h))
      · exact .inl (.inr ⟨o, s1 _ _ h⟩)
      · exact .inr h), fun lw hlw => ?_⟩
    have s2 := s1.trans (same_new (o := .lst vs) hlw)
    have hlw0 : H lw = none := s1.free hlw
    have ndl : d ≠ lw := ne_of_none upd_same hlw
    refine ⟨fun m σ H' => ∃ v5 v6, σ = [some (.ref a), some vo, some (.int p), some (.ref d), some (.ref lw), v5, v6] ∧ UI p n rows H d lw m H',
      ⟨_, none, none, rfl, [], rows, [], vs, s2, by rw [upd_ne ndl, upd_same], trivial, upd_same, hrows.mono fun _ _ x => x.keep (.of s2), ⟨List.nodup_nil, fun x h => (nomatch h)⟩, hg, .refl, hlen, rfl⟩, ?_⟩
    rintro m σ H' ⟨v5, v6, rfl, F, wait, kvs, ws, sm, ed, dof, elw, hws, fok, wg, eqv, wl, rfl⟩
    refine ⟨_, rfl, Nat.zero_le _, fun p1 hp1 => ?_⟩
    have t1 := same_new (o := .lst []) hp1
    refine ⟨rowsD wait, rowsD [], rows_dp (SqL.of (t1 _ _ elw)) (hws.mono fun _ _ x => x.keep (.of t1)), rows_dp (SqL.of upd_same) trivial, rowsD_sh _, rowsD_sh _, _, rfl, ?_⟩
    rw [rowsD_eqv]
    by_cases ew : wait = []
    · rw [decide_eq_true ew]
      subst ew
      rw [List.append_nil] at eqv
      refine ⟨_, rfl, q _ d F (sm.trans t1) hd ⟨kvs, t1 _ _ ed, dof.keep (.of t1)⟩ fok eqv⟩
    rw [decide_eq_false ew]
    obtain ⟨wait', r, rfl⟩ : ∃ wait' r, wait = wait' ++ [r] := ⟨wait.dropLast, wait.getLast ew, (List.dropLast_concat_getLast ew).symm⟩
    obtain ⟨ws', v, rfl, hws', hv⟩ := hws.snoc_inv
    have gr : Good p n r := wg r (by simp)
    have wg' : ∀ r ∈ wait', Good p n r := fun x hx => wg x (by simp [hx])
    rw [sumW_snoc]
    rw [List.length_append, List.length_singleton] at wl
    have wl' := hws'.len
    refine ⟨fun σ' H2 => ∃ m', m' < sumF p n F + (sumW p n wait' + (szf p (co n r) + 1)) ∧ ∃ v5 v6, σ' = [some (.ref a), some vo, some (.int p), some (.ref d), some (.ref lw), v5, v6] ∧ UI p n rows H d lw m' H2, fun _ _ h => h, ?_⟩
    -- row = waiting.pop()
    refine ⟨_, rfl, .inl ⟨rfl, _, SqL.of (t1 _ _ elw)⟩, lw, _, v, rfl, rfl, t1 _ _ elw, by simp, ?_⟩
    rw [List.dropLast_concat]
    have k1 : Keeps (upd H' p1 (.lst [])) (upd (upd H' p1 (.lst [])) lw (.lst ws')) := keeps_lst (t1 _ _ elw)
    have k2 : Keeps H' (upd (upd H' p1 (.lst [])) lw (.lst ws')) := (Keeps.of t1).trans k1
    have sm2 : Same H (upd (upd H' p1 (.lst [])) lw (.lst ws')) := same_upd2 hlw0 (sm.trans t1)
    have ed2 : (upd (upd H' p1 (.lst [])) lw (.lst ws')) d = some (.dK kvs) := by rw [upd_ne ndl]; exact t1 _ _ ed
    have elw2 : (upd (upd H' p1 (.lst [])) lw (.lst ws')) lw = some (.lst ws') := upd_same
    generalize upd (upd H' p1 (.lst [])) lw (.lst ws') = H1 at k2 sm2 ed2 elw2
    have hv1 := hv.keep k2
    have dof1 := dof.keep k2
    have hws1 := hws'.mono fun _ _ x => RowAt.keep x k2
    -- end = head_of(row, order)
    refine ⟨_, rfl, _, rfl, v, vo, n, r, rfl, hv1, gr.ok.len, hO.keep sm2, fun H2 ve t2 hd2 => ?_⟩
    have sm3 := sm2.trans t2
    have ed3 := t2 _ _ ed2
    have elw3 := t2 _ _ elw2
    have hv2 := hv1.keep (.of t2)
    have dof2 := dof1.keep (.of t2)
    have hws2 := hws1.mono fun _ _ x => RowAt.keep x (.of t2)
    refine ⟨_, rfl, rfl, _, rfl, ?_⟩
    rcases hd2.cases with rfl | ⟨e, rfl, he⟩
    · -- nothing is left of it
      refine ⟨_, rfl, rfl, _, rfl, ?_⟩
      exact ⟨_, by omega, _, _, rfl, F, wait', kvs, ws', sm3, ed3, dof2, elw3, hws2, fok, wg', turn_zero (HdTo.none hn0 hd2) eqv, by omega, rfl⟩
    have hr0 : HeadIs p n e r := HdTo.some pp gr hd2
    refine ⟨_, rfl, _, rfl, d, _, rfl, DGet.k (k := Sum.inl (e : Int)) ed3, _, rfl, ?_⟩
    by_cases ein : e ∈ F.map (·.1)
    · obtain ⟨x, hx, rfl⟩ := List.mem_map.mp ein
      obtain ⟨e, g⟩ := x
      obtain ⟨vg, hvg, hgr⟩ := dof2.get fok.nd hx
      have hg0 : HeadIs p n e g := fok.hd _ hx
      rw [hvg]
      refine ⟨_, rfl, rfl, _, rfl, ?_⟩
      obtain ⟨ar, vsr, rfl, har, hrr⟩ := id hv2
      obtain ⟨ag, vsg, rfl, hag, hgg⟩ := id hgr
      obtain ⟨x1, hx1, ⟨ax, rfl, hax⟩⟩ := hrr.getD_row (e := e) (by rw [gr.ok.len]; exact he)
      obtain ⟨y1, hy1, ⟨ay, rfl, hay⟩⟩ := hgg.getD_row (e := e) (by rw [hg0.good.ok.len]; exact he)
      refine ⟨_, rfl, _, rfl, ar, _, _, _, rfl, rfl, SqT.of har, atI_nat hx1, ax, _, rfl, .inr (SqT.of hax), ?_⟩
      refine ⟨_, rfl, _, rfl, d, _, rfl, (hvg ▸ DGet.k (k := Sum.inl (e : Int)) ed3), _, rfl, ag, _, _, _, rfl, rfl, SqT.of hag, atI_nat hy1, ay, _, rfl, .inr (SqT.of hay), _, _, rfl, rfl, _, rfl, ?_⟩
      rw [List.length_map, List.length_map]
      by_cases hlt : ((r.getD e []).length : Int) < ((g.getD e []).length : Int)
      · rw [decide_eq_true hlt]
        -- found[end], row = row, found[end]
        refine ⟨_, rfl, _, rfl, _, rfl, d, _, rfl, (hvg ▸ DGet.k (k := Sum.inl (e : Int)) ed3), (by show 2 ≤ sizeLine; decide), fun pt hpt => ?_⟩
        have t3 := same_new (o := .tup [.ref ar, .ref ag]) hpt
        refine ⟨pt, _, rfl, SqT.of upd_same, rfl, _, _, rfl, _, rfl, _, rfl, d, _, rfl, DPut.k (k := Sum.inl (e : Int)) (t3 _ _ ed3) (by rw [dof2.len]; exact small1000 (by have := fok.few; omega)), _, _, rfl, rfl, ?_⟩
        have k4 : Keeps H2 (upd (upd H2 pt (.tup [.ref ar, .ref ag])) d (.dK (putK kvs (Sum.inl (e : Int)) (.ref ar)))) := (Keeps.of t3).trans (keeps_dk (t3 _ _ ed3))
        have sm4 : Same H (upd (upd H2 pt (.tup [.ref ar, .ref ag])) d (.dK (putK kvs (Sum.inl (e : Int)) (.ref ar)))) := same_upd2 hd (sm3.trans t3)
        have ed4 : (upd (upd H2 pt (.tup [.ref ar, .ref ag])) d (.dK (putK kvs (Sum.inl (e : Int)) (.ref ar)))) d = some (.dK (putK kvs (Sum.inl (e : Int)) (.ref ar))) := upd_same
        have elw4 : (upd (upd H2 pt (.tup [.ref ar, .ref ag])) d (.dK (putK kvs (Sum.inl (e : Int)) (.ref ar)))) lw = some (.lst ws') := by rw [upd_ne ndl.symm]; exact t3 _ _ elw3
        generalize upd (upd H2 pt (.tup [.ref ar, .ref ag])) d (.dK (putK kvs (Sum.inl (e : Int)) (.ref ar))) = H3 at k4 sm4 ed4 elw4
        have dof3 := (dof2.keep k4).put fok.nd hx (hv2.keep k4)
        have hvn : valV (putK kvs (Sum.inl (e : Int)) (.ref ar)) (Sum.inl (e : Int)) = some (.ref ar) := by rw [valV_put, if_pos rfl]
        refine ⟨_, rfl, .inl ⟨rfl, _, SqL.of elw4⟩, _, rfl, _, rfl, _, rfl, d, _, rfl, (hvn ▸ DGet.k (k := Sum.inl (e : Int)) ed4), ?_⟩
        refine ⟨_, rfl, _, rfl, .ref ag, .ref ar, e, n, p, g, r, rfl, hgr.keep k4, hv2.keep k4, hp, hg0.good.ok, gr.ok, hn, hg0.good.sh, gr.sh, he, hg0.ne, hr0.ne, by omega, fun H4 v' r' k t5 hv' C z => ?_⟩
        have L : Lessened p n g r r' e := .of pp hg0 hr0 (by omega) C z
        refine ⟨lw, _, _, rfl, rfl, t5 _ _ elw4, small1000 (by omega), ?_⟩
        have k6 : Keeps H4 (upd H4 lw (.lst (ws' ++ [v']))) := keeps_lst (t5 _ _ elw4)
        have sg := sumF_put (p := p) (w := n) fok.nd hx (r := r)
        have lz : szf p (co n r') ≤ rk n g e := L.sz
        have gz : szf p (co n g) = rk n g e + 1 := hg0.sz
        refine ⟨sumF p n (rput F e r) + sumW p n (wait' ++ [r']), ?_, _, _, rfl, rput F e r, wait' ++ [r'], _, _, same_upd2 hlw0 (sm4.trans t5), by rw [upd_ne ndl]; exact t5 _ _ ed4, (dof3.keep (.of t5)).keep k6, upd_same, ?_, fok.put hr0, ?_, turn_swap fok.nd hx L eqv, by rw [List.length_append, List.length_singleton]; omega, rfl⟩
        · rw [sumW_snoc]
          omega
        · exact (hws2.mono fun _ _ x => ((RowAt.keep x k4).keep (.of t5)).keep k6).snoc (hv'.keep k6)
        · intro x hx
          rcases List.mem_append.mp hx with hx | hx
          · exact wg' x hx
          · rw [List.mem_singleton] at hx
            subst hx
            exact L.good
      · rw [decide_eq_false hlt]
        refine ⟨_, rfl, .inl ⟨rfl, _, SqL.of elw3⟩, _, rfl, _, rfl, _, rfl, d, _, rfl, (hvg ▸ DGet.k (k := Sum.inl (e : Int)) ed3), ?_⟩
        refine ⟨_, rfl, _, rfl, .ref ar, .ref ag, e, n, p, r, g, rfl, hv2, hgr, hp, gr.ok, hg0.good.ok, hn, gr.sh, hg0.good.sh, he, hr0.ne, hg0.ne, by omega, fun H4 v' r' k t5 hv' C z => ?_⟩
        have L : Lessened p n r g r' e := .of pp hr0 hg0 (by omega) C z
        refine ⟨lw, _, _, rfl, rfl, t5 _ _ elw3, small1000 (by omega), ?_⟩
        have k6 : Keeps H4 (upd H4 lw (.lst (ws' ++ [v']))) := keeps_lst (t5 _ _ elw3)
        have lz : szf p (co n r') ≤ rk n r e := L.sz
        have rz : szf p (co n r) = rk n r e + 1 := hr0.sz
        refine ⟨sumF p n F + sumW p n (wait' ++ [r']), ?_, _, _, rfl, F, wait' ++ [r'], kvs, _, same_upd2 hlw0 (sm3.trans t5), by rw [upd_ne ndl]; exact t5 _ _ ed3, (dof2.keep (.of t5)).keep k6, upd_same, ?_, fok, ?_, turn_keep hx L eqv, by rw [List.length_append, List.length_singleton]; omega, rfl⟩
        · rw [sumW_snoc]
          omega
        · exact (hws2.mono fun _ _ x => (RowAt.keep x (.of t5)).keep k6).snoc (hv'.keep k6)
        · intro x hx
          rcases List.mem_append.mp hx with hx | hx
          · exact wg' x hx
          · rw [List.mem_singleton] at hx
            subst hx
            exact L.good
    · rw [dof2.no ein]
      -- found[end] = row
      refine ⟨_, rfl, _, rfl, _, rfl, d, _, rfl, DPut.k (k := Sum.inl (e : Int)) ed3 (by rw [dof2.len]; exact small1000 (by have := fok.few; omega)), ?_⟩
      have k4 : Keeps H2 (upd H2 d (.dK (putK kvs (Sum.inl (e : Int)) v))) := keeps_dk ed3
      refine ⟨sumF p n (F ++ [(e, r)]) + sumW p n wait', ?_, _, _, rfl, F ++ [(e, r)], wait', _, ws', same_upd2 hd sm3, upd_same, (dof2.keep k4).new ein (hv2.keep k4), by rw [upd_ne ndl.symm]; exact elw3, hws2.mono fun _ _ x => RowAt.keep x k4, fok.new hr0 ein, wg', turn_new eqv, by omega, rfl⟩
      rw [sumF_new]
      omega
end
end K8

set_option Elab.async false
set_option linter.all false
namespace K8
theorem divmod_ix {w : Nat} (m : Nat) : m / w * w + m % w = m := by rw [Nat.mul_comm]; exact Nat.div_add_mod m w
/-! ### a row lowered by the others -/
structure LowI (p : Int) (n : Nat) (F : Fnd) (own : Nat) (row c : Row) (M : Nat) : Prop where
  good : Good p n c
  lead : Lead p (co n c) (rk n row own)
  span : ∃ dl : Fn, Sl p n (others F own) dl ∧ ∀ m, Cg p (co n c m) (co n row m + dl m)
  low : ∀ m x, M ≤ m → x ∈ F → x.1 ≠ own → m % n = x.1 → rk n x.2 x.1 ≤ m → Cg p (co n c m) 0
/-- what too_high tells of an end -/
structure TopHigh (n : Nat) (row : Row) (F : Fnd) (own e : Nat) (g : Row) : Prop where
  mem : (e, g) ∈ F
  ne : e ≠ own
  le : (g.getD e []).length ≤ (row.getD e []).length
  top : ∀ x ∈ F, x.1 ≠ own → (x.2.getD x.1 []).length ≤ (row.getD x.1 []).length → rk n row x.1 ≤ rk n row e
def NoHigh (row : Row) (F : Fnd) (own : Nat) : Prop := ∀ x ∈ F, x.1 ≠ own → (row.getD x.1 []).length < (x.2.getD x.1 []).length
section
variable {p : Int} {n own e M : Nat} {F : Fnd} {row c c' g : Row} {k : Int}
theorem LowI.start (h : HeadIs p n own row) : LowI p n F own row row (rk n row own + 1) :=
  ⟨h.good, h.lead, ⟨fun _ => 0, .zero fun _ => .refl _ _, fun m => .of_eq (Int.add_zero _).symm⟩, fun m x hm _ _ _ _ => h.lead.2 m (by omega)⟩
theorem LowI.step (hp : 0 < p) (hF : FOk p n F) (hR : HeadIs p n own row) (I : LowI p n F own row c M) (T : TopHigh n c F own e g)
    (C : CombR p n c g k ((c.getD e []).length - (g.getD e []).length) c') (z : Cg p (cf (c.getD e []) ((c.getD e []).length - 1) + k * cf (g.getD e []) ((g.getD e []).length - 1)) 0) :
    LowI p n F own row c' (rk n c e) ∧ rk n c e < M := by
  have hg : HeadIs p n e g := hF.hd _ T.mem
  have hw : 0 < n := Nat.lt_of_le_of_lt (Nat.zero_le _) hg.lt
  have he := hg.lt
  have gl := List.length_pos_iff.mpr hg.ne
  have cne : c.getD e [] ≠ [] := List.length_pos_iff.mp (Nat.lt_of_lt_of_le gl T.le)
  have cl := List.length_pos_iff.mpr cne
  have nz : ¬ Cg p (co n c (rk n c e)) 0 := by
    rw [co_rk c he]
    exact cf_last_cg hp (I.good.ok.at e) cne
  have me : rk n c e % n = e := rk_mod c he
  have hle : rk n c e ≤ rk n row own := Nat.le_of_not_lt fun h => nz (I.lead.2 _ h)
  have hlt : rk n c e < rk n row own := by
    refine Nat.lt_of_le_of_ne hle fun h => T.ne ?_
    rw [← me, h]
    exact rk_mod row hR.lt
  have gle : rk n g e ≤ rk n c e := by
    have := rk_add (w := n) hg.ne T.le
    omega
  have hM : rk n c e < M := Nat.lt_of_not_le fun h => nz (I.low _ (e, g) h T.mem T.ne me gle)
  obtain ⟨h1, h2, up⟩ := reduce hw he hg.ne T.le hg.lead hle (fun m hm => I.lead.2 m hm) C z
  have ld : Lead p (co n c') (rk n row own) := ⟨fun q => I.lead.1 ((up _ hlt).symm.trans q), h1⟩
  refine ⟨⟨⟨C.ok, short_of hp C.ok (N := rk n row own + 1) (rk_lt hR.lt hR.ne (by
    have := hR.lt
    have l := hR.good.ok.len
    exact hR.good.sh _ (getD_mem (by omega)))) fun m hm => h1 m (by omega)⟩, ld, ?_, ?_⟩, hM⟩
  · obtain ⟨dl, hd, ed⟩ := I.span
    refine ⟨fun m => dl m + k * sh (((c.getD e []).length - (g.getD e []).length) * n) (co n g) m, Sl.addmul hd (.mem (mem_others.mpr ⟨_, T.mem, T.ne, rfl⟩)) k _ fun m => .refl _ _, fun m => ?_⟩
    exact (C.cfs hw m).trans (((ed m).add (Cg.refl p _)).trans (.of_eq (Int.add_assoc _ _ _)))
  · intro m x hm hx hn hmod hr
    by_cases q : m = rk n c e
    · rw [q]
      exact h2
    · have hmm : rk n c e < m := by omega
      refine (up m hmm).trans ?_
      -- were it not nought, that end would be higher
      refine Classical.byContradiction fun q2 => ?_
      have hx1 : x.1 < n := (hF.hd x hx).lt
      have em := divmod_ix (w := n) m
      rw [hmod] at em
      have hln : m / n < (c.getD x.1 []).length := by
        refine Nat.lt_of_not_le fun z2 => q2 ?_
        rw [← em, co_ix c _ hx1]
        exact .of_eq (cf_out z2)
      have hcx : m ≤ rk n c x.1 := by
        unfold rk
        rw [← em]
        have : m / n * n ≤ ((c.getD x.1 []).length - 1) * n := Nat.mul_le_mul_right n (by omega)
        omega
      have hxl : (x.2.getD x.1 []).length ≤ (c.getD x.1 []).length := by
        refine Nat.le_of_not_lt fun z2 => ?_
        have : m < rk n x.2 x.1 := by
          unfold rk
          rw [← em]
          exact (ix_lt hx1 hx1).mpr (.inl (by omega))
        omega
      have := T.top x hx hn hxl
      omega
/-- what lowered gives -/
structure Lowered (p : Int) (n : Nat) (F : Fnd) (own : Nat) (row c : Row) : Prop where
  hd : HeadIs p n own c
  rk_eq : rk n c own = rk n row own
  span : ∃ dl : Fn, Sl p n (others F own) dl ∧ ∀ m, Cg p (co n c m) (co n row m + dl m)
  red : ∀ x ∈ F, x.1 ≠ own → ∀ m, rk n x.2 x.1 ≤ m → m % n = x.1 → Cg p (co n c m) 0
theorem LowI.done (hp : 0 < p) (hF : FOk p n F) (hR : HeadIs p n own row) (I : LowI p n F own row c M) (N : NoHigh c F own) : Lowered p n F own row c := by
  have hw : 0 < n := Nat.lt_of_le_of_lt (Nat.zero_le _) hR.lt
  obtain ⟨h1, h2⟩ := lead_row hp hw I.good.ok I.lead
  rw [rk_mod row hR.lt] at h1 h2
  refine ⟨⟨I.good, hR.lt, h1, by rw [h2]; exact I.lead⟩, h2, I.span, fun x hx hn m hm hmod => ?_⟩
  have hx1 : x.1 < n := (hF.hd x hx).lt
  have em := divmod_ix (w := n) m
  rw [hmod] at em
  have := N x hx hn
  rw [← em, co_ix c _ hx1]
  refine .of_eq (cf_out ?_)
  refine Nat.le_of_not_lt fun z => ?_
  have : m < rk n x.2 x.1 := by
    unfold rk
    rw [← em]
    exact (ix_lt hx1 hx1).mpr (.inl (by omega))
  omega
end
/-! ### all rows lowered -/
structure LedI (p : Int) (n : Nat) (F0 F : Fnd) (dn : List Nat) : Prop where
  fok : FOk p n F
  keys : F.map (·.1) = F0.map (·.1)
  rks : ∀ x ∈ F, ∀ y ∈ F0, x.1 = y.1 → rk n x.2 x.1 = rk n y.2 y.1
  red : ∀ x ∈ F, x.1 ∈ dn → ∀ y ∈ F0, y.1 ≠ x.1 → ∀ m, rk n y.2 y.1 ≤ m → m % n = y.1 → Cg p (co n x.2 m) 0
  eqv : Eqv p n (rowsF F) (rowsF F0)
theorem LedI.start {p : Int} {n : Nat} {F : Fnd} (h : FOk p n F) : LedI p n F F [] :=
  ⟨h, rfl, fun x hx y hy e => by rw [key_inj h.nd hx hy e], fun _ _ h => (nomatch h), .refl⟩
theorem key_in {F F0 : Fnd} (h : F.map (·.1) = F0.map (·.1)) {y : Nat × Row} (hy : y ∈ F0) : ∃ x ∈ F, x.1 = y.1 := by
  have : y.1 ∈ F.map (·.1) := by rw [h]; exact List.mem_map.mpr ⟨y, hy, rfl⟩
  obtain ⟨x, hx, e⟩ := List.mem_map.mp this
  exact ⟨x, hx, e⟩
theorem LedI.step {p : Int} {n : Nat} {F0 F : Fnd} {dn : List Nat} (I : LedI p n F0 F dn) {e : Nat} {g c : Row} (hg : (e, g) ∈ F) (L : Lowered p n F e g c) : LedI p n F0 (rput F e c) (dn ++ [e]) := by
  refine ⟨I.fok.put L.hd, by rw [rput_keys]; exact I.keys, fun x hx y hy q => ?_, fun x hx hd y hy hn m hm hmod => ?_, ?_⟩
  · rcases rput_mem hx with rfl | ⟨hx, _⟩
    · exact L.rk_eq.trans (I.rks _ hg y hy q)
    · exact I.rks x hx y hy q
  · rcases rput_mem hx with rfl | ⟨hx, ne⟩
    · obtain ⟨u, hu, eu⟩ := key_in I.keys hy
      refine L.red u hu (by rw [eu]; exact hn) m ?_ (by rw [eu]; exact hmod)
      rw [I.rks u hu y hy eu]
      exact hm
    · refine I.red x hx ?_ y hy hn m hm hmod
      rcases List.mem_append.mp hd with h | h
      · exact h
      · rw [List.mem_singleton] at h
        exact absurd h ne
  · obtain ⟨dl, hd, ed⟩ := L.span
    have nd2 : ((rput F e c).map (·.1)).Nodup := by rw [rput_keys]; exact I.fok.nd
    have e1 : Eqv p n (c :: others F e) (g :: others F e) := Eqv.repl hd ed
    have m1 : Eqv p n (rowsF F) (g :: others F e) := .of_mem fun r => rows_split I.fok.nd hg r
    have m2 : Eqv p n (rowsF (rput F e c)) (c :: others F e) := .of_mem fun r => by
      rw [rows_split nd2 (rput_in hg), List.mem_cons, List.mem_cons, others_put]
    exact m2.trans (e1.trans (m1.symm.trans I.eqv))
/-! ### levelled -/
structure Lev (p : Int) (n : Nat) (e : Nat) (g r : Row) : Prop where
  ex : ∃ k : Int, CombR p n [] g k 0 r ∧ Cg p (k * cf (g.getD e []) ((g.getD e []).length - 1)) 1
section
variable {p : Int} {n e : Nat} {g r : Row}
theorem co_nil (n m : Nat) : co n [] m = 0 := by
  unfold co
  rw [show ([] : Row).getD (m % n) [] = [] from rfl]
  exact cf_out (Nat.zero_le _)
theorem scaled_cfs {k : Int} (hw : 0 < n) (C : CombR p n [] g k 0 r) (m : Nat) : Cg p (co n r m) (k * co n g m) := by
  refine (C.cfs hw m).trans (.of_eq ?_)
  rw [co_nil, Nat.zero_mul, sh_zero]
  omega
theorem Lev.props (hp : p ∈ PRIMES) (h : HeadIs p n e g) (L : Lev p n e g r) : HeadIs p n e r ∧ rk n r e = rk n g e ∧ Cg p (co n r (rk n g e)) 1 ∧ (∀ m, Cg p (co n g m) 0 → Cg p (co n r m) 0) ∧
    (∃ k : Int, ∀ m, Cg p (co n r m) (k * co n g m)) ∧ ∃ k : Int, ∀ m, Cg p (co n g m) (k * co n r m) := by
  obtain ⟨k, C, u⟩ := L.ex
  have pp : 0 < p := by have := (prime_pos hp).1; omega
  have hw : 0 < n := Nat.lt_of_le_of_lt (Nat.zero_le _) h.lt
  have cf1 := scaled_cfs hw C
  have mon : Cg p (co n r (rk n g e)) 1 := by
    refine (cf1 _).trans ?_
    rw [co_rk g h.lt]
    exact u
  have zero : ∀ m, Cg p (co n g m) 0 → Cg p (co n r m) 0 := fun m hm => (cf1 m).trans ((Cg.mulL k hm).trans (.of_eq (by omega)))
  have ld : Lead p (co n r) (rk n g e) := ⟨fun q => by
    have := mon.symm.trans q
    exact Cg.ne0 (p := p) (a := 1) (by omega) (by have := (prime_pos hp).1; omega) this, fun m hm => zero m (h.lead.2 m hm)⟩
  obtain ⟨h1, h2⟩ := lead_row pp hw C.ok ld
  rw [rk_mod g h.lt] at h1 h2
  have good : Good p n r := ⟨C.ok, short_of pp C.ok (N := rk n g e + 1) (rk_lt h.lt h.ne (by
    have := h.lt
    have l := h.good.ok.len
    exact h.good.sh _ (getD_mem (by omega)))) fun m hm => ld.2 m (by omega)⟩
  refine ⟨⟨good, h.lt, h1, by rw [h2]; exact ld⟩, h2, mon, zero, ⟨k, cf1⟩, cf (g.getD e []) ((g.getD e []).length - 1), fun m => ?_⟩
  obtain ⟨c, hc⟩ := u
  obtain ⟨d, hd⟩ := cf1 m
  generalize cf (g.getD e []) ((g.getD e []).length - 1) = a at hc
  refine ⟨-(c * co n g m) - a * d, ?_⟩
  rw [hd]
  grind
end
/-- what led_rows gives: the rows by their heads, rising -/
structure Led (p : Int) (n : Nat) (rows : List Row) (T : Fnd) : Prop where
  good : ∀ x ∈ T, HeadIs p n x.1 x.2
  told : Told p n (T.map fun x => (rk n x.2 x.1, x.2))
  eqv : Eqv p n (rowsF T) rows
theorem Led.of {p : Int} {n : Nat} {F0 F T : Fnd} {rows : List Row} (hp : p ∈ PRIMES) (I : LedI p n F0 F (F0.map (·.1))) (h0 : Eqv p n (rowsF F0) rows) (up : T.Pairwise fun x y => x.1 < y.1) (all : ∀ y ∈ F, ∃ x ∈ T, x.1 = y.1) (lev : ∀ x ∈ T, ∃ g, (x.1, g) ∈ F ∧ Lev p n x.1 g x.2) : Led p n rows T := by
  have P : ∀ x ∈ T, ∃ g, (x.1, g) ∈ F ∧ HeadIs p n x.1 x.2 ∧ rk n x.2 x.1 = rk n g x.1 ∧ Cg p (co n x.2 (rk n g x.1)) 1 ∧ (∀ m, Cg p (co n g m) 0 → Cg p (co n x.2 m) 0) ∧ (∃ k : Int, ∀ m, Cg p (co n x.2 m) (k * co n g m)) ∧ ∃ k : Int, ∀ m, Cg p (co n g m) (k * co n x.2 m) := fun x hx => by
    obtain ⟨g, hg, L⟩ := lev x hx
    exact ⟨g, hg, L.props hp (I.fok.hd _ hg)⟩
  have hd : ∀ x ∈ T, HeadIs p n x.1 x.2 := fun x hx => let ⟨_, _, h, _⟩ := P x hx; h
  have rkm : ∀ x ∈ T, rk n x.2 x.1 % n = x.1 := fun x hx => rk_mod x.2 (hd x hx).lt
  have e1 : rowsOf (T.map fun x => (rk n x.2 x.1, x.2)) = rowsF T := by
    unfold rowsOf rowsF
    rw [List.map_map]
    rfl
  refine ⟨hd, ⟨fun y hy => ?_, fun y hy => ?_, fun y hy => ?_, fun y hy u hu hn m hm hmod => ?_, ?_⟩, Eqv.trans ⟨fun r hr => ?_, fun r hr => ?_⟩ (I.eqv.trans h0)⟩
  · obtain ⟨x, hx, rfl⟩ := List.mem_map.mp hy
    exact (hd x hx).good.ok
  · obtain ⟨x, hx, rfl⟩ := List.mem_map.mp hy
    exact (hd x hx).lead
  · obtain ⟨x, hx, rfl⟩ := List.mem_map.mp hy
    obtain ⟨g, hg, h1, h2, h3, _⟩ := P x hx
    show Cg p (co n x.2 (rk n x.2 x.1)) 1
    rw [h2]
    exact h3
  · obtain ⟨x, hx, rfl⟩ := List.mem_map.mp hy
    obtain ⟨z, hz, rfl⟩ := List.mem_map.mp hu
    obtain ⟨g, hg, h1, h2, h3, h4, _⟩ := P x hx
    obtain ⟨g2, hg2, k1, k2, _⟩ := P z hz
    have n1 : x.1 ≠ z.1 := by
      have : rk n x.2 x.1 % n ≠ rk n z.2 z.1 % n := hn
      rwa [rkm x hx, rkm z hz] at this
    have hmod' : m % n = z.1 := by
      have : m % n = rk n z.2 z.1 % n := hmod
      rwa [rkm z hz] at this
    have hm' : rk n z.2 z.1 ≤ m := hm
    refine h4 m ?_
    -- the head's row in the first table
    have hz0 : z.1 ∈ F0.map (·.1) := by rw [← I.keys]; exact List.mem_map.mpr ⟨_, hg2, rfl⟩
    obtain ⟨y0, hy0, ey⟩ := List.mem_map.mp hz0
    have hx0 : x.1 ∈ F0.map (·.1) := by rw [← I.keys]; exact List.mem_map.mpr ⟨_, hg, rfl⟩
    refine I.red (x.1, g) hg hx0 y0 hy0 (by rw [ey]; exact fun q => n1 q.symm) m ?_ (by rw [ey]; exact hmod')
    rw [← I.rks (z.1, g2) hg2 y0 hy0 ey.symm]
    show rk n g2 z.1 ≤ m
    omega
  · rw [List.pairwise_map]
    exact up.imp_of_mem fun {x y} hx hy h => by
      show rk n x.2 x.1 % n < rk n y.2 y.1 % n
      rw [rkm x hx, rkm y hy]
      exact h
  · obtain ⟨x, hx, rfl⟩ := List.mem_map.mp hr
    obtain ⟨g, hg, _, _, _, _, ⟨k, hk⟩, _⟩ := P x hx
    exact Sp.smul (Sl.mem (List.mem_map.mpr ⟨_, hg, rfl⟩)) k 0 fun m => (hk m).trans (.of_eq (by rw [Nat.zero_mul, sh_zero]))
  · obtain ⟨y, hy, rfl⟩ := List.mem_map.mp hr
    obtain ⟨x, hx, ex⟩ := all y hy
    obtain ⟨g, hg, _, _, _, _, _, ⟨k, hk⟩⟩ := P x hx
    have : (x.1, g) = y := key_inj I.fok.nd hg hy ex
    have e2 : y.2 = g := by rw [← this]
    rw [e2]
    exact Sp.smul (Sl.mem (List.mem_map.mpr ⟨x, hx, rfl⟩)) k 0 fun m => (hk m).trans (.of_eq (by rw [Nat.zero_mul, sh_zero]))
end K8

set_option Elab.async false
set_option linter.all false
set_option maxRecDepth 100000
set_option maxHeartbeats 4000000
namespace K8
open PySem PySem.Spec PyProof.Rows L2
abbrev sHigh : Stmt := topS 24
abbrev sLowered : Stmt := topS 25
/-- too_high over the first i of the found -/
def HighTo (n : Nat) (row : Row) (F : Fnd) (own : Nat) (i : Nat) (v : V) : Prop :=
  (v = .non ∧ ∀ x ∈ F.take i, x.1 ≠ own → (row.getD x.1 []).length < (x.2.getD x.1 []).length) ∨
  ∃ (e : Nat) (g : Row), v = .int (e : Nat) ∧ (e, g) ∈ F ∧ e ≠ own ∧ (g.getD e []).length ≤ (row.getD e []).length ∧ ∀ x ∈ F.take i, x.1 ≠ own → (x.2.getD x.1 []).length ≤ (row.getD x.1 []).length → rk n row x.1 ≤ rk n row e
theorem HighTo.cases {n : Nat} {row : Row} {F : Fnd} {own : Nat} {v : V} (h : HighTo n row F own F.length v) : (v = .non ∧ NoHigh row F own) ∨ ∃ (e : Nat) (g : Row), v = .int (e : Nat) ∧ TopHigh n row F own e g := by
  rcases h with ⟨h, f⟩ | ⟨e, g, h, h1, h2, h3, h4⟩
  · rw [List.take_length] at f
    exact .inl ⟨h, f⟩
  · rw [List.take_length] at h4
    exact .inr ⟨e, g, h, h1, h2, h3, h4⟩
theorem mem_take_succ {α : Type} {l : List α} {i : Nat} {y x : α} (hy : l[i]? = some y) (h : x ∈ l.take (i + 1)) : x ∈ l.take i ∨ x = y := by
  rw [List.take_add_one, hy] at h
  rcases List.mem_append.mp h with h | h
  · exact .inl h
  · exact .inr (by simpa using h)
theorem OrderAt.lock {H : Hp} {v : V} {n : Nat} {d : Addr} {kvs : List (Key × V)} {o : HO} (h : OrderAt H v n) (hd : H d = some (.dK kvs)) : OrderAt (upd H d o) v n := by
  obtain ⟨a, os, e, q, l, f⟩ := h
  exact ⟨a, os, e, by rw [upd_ne (ne_of q hd (by intro z; cases z))]; exact q, l, fun e o z => (f e o z).keep (keeps_dk hd)⟩
theorem same_unlock {H H' : Hp} {d : Addr} {u o : HO} (hd : H d = some u) (s : Same (upd H d o) H') : Same H (upd H' d u) := fun b x e => by
  by_cases q : b = d
  · subst q
    rw [hd] at e
    rw [upd_same]
    exact e
  · rw [upd_ne q]
    exact s _ _ (by rw [upd_ne q]; exact e)
section
variable {P : Program} {w : World} {K : PySem.W.Frag} {mg : Str → Option Value} {base : Heap}
theorem scHigh : FnScope ["row", "found", "order", "own", "high", "end"] ["row", "found", "order", "own"] (defScope sHigh) := ⟨rfl, rfl, rfl, by decide +kernel, rfl, by decide +kernel, by decide +kernel⟩
def spHigh : L2.Sp := fun vs H Q _ => ∃ (vr vo : V) (d : Addr) (own n : Nat) (p : Int) (row : Row) (F : Fnd) (kvs : List (Key × V)), vs = [vr, .ref d, vo, .int (own : Nat)] ∧ RowAt H vr row ∧ row.length = n ∧ H d = some (.dK kvs) ∧ DOf H kvs F ∧ FOk p n F ∧ OrderAt H vo n ∧
  ∀ H' v, Same H H' → HighTo n row F own F.length v → Q v H'
theorem ok_high (D : IsDef K mg "too_high" sHigh ["row", "found", "order", "own"]) (T : Blt mg) (C : Ok P w K mg base 1 "rank_at" ["row", "order", "end"] spRank) : Ok P w K mg base 2 "too_high" ["row", "found", "order", "own"] spHigh := by
  refine D.ok scHigh (fun vs H Q E h => ?_) (fun f cdv A outer s H vs Q E hr h => ?_)
  · obtain ⟨vr, vo, d, own, n, p, row, F, kvs, rfl, _⟩ := h
    rfl
  · obtain ⟨vr, vo, d, own, n, p, row, F, kvs, rfl, hR, hn, hd, dof, fok, hO, q⟩ := h
    obtain ⟨a, vs, rfl, ha, hrow⟩ := id hR
    have hu := hu_of hr
    refine ⟨_, pss_cons (ps_set (i := 4) scHigh.nd rfl (.inl rfl) pe_non)
      (pss_cons (ps_lock (ps_for PassesOwn.never rfl (pi_keys (pv 1)) (pg_name (i := 5) scHigh.nd rfl (.inl rfl))
        (pss_one (ps_if (PW.pt (pw_and (pt_cmpR op_ne (pv 5) (pv 3) (nomark _)) (pw_and1 (pt_cmpR op_ge (pe_callB call_len_seq (by rfl) T.len PySem.boot_len (pa_cons (pe_ix ix_tup (pv 0) (pv 5) (fun _ _ => rfl)) pa_nil)) (pe_callB call_len_seq (by rfl) T.len PySem.boot_len (pa_cons (pe_ix ix_tup (pe_dget hu (pv 1) (pv 5) (fun _ _ => rfl)) (pv 5) (fun _ _ => rfl)) pa_nil)) (nomark _)))))
          (pss_one (ps_if (PW.pt (pw_or (pt_cmpR op_isN (pv 4) pe_non (nomark _))
            (pw_or1 (pt_cmpR (op_gtT hr.units0) (pe_c C hr (by rfl) (pa_cons (pv 0) (pa_cons (pv 2) (pa_cons (pv 5) pa_nil)))) (pe_c C hr (by rfl) (pa_cons (pv 0) (pa_cons (pv 2) (pa_cons (pv 4) pa_nil)))) (nomark _)))))
            (pss_one (ps_set (i := 4) scHigh.nd rfl (.inl rfl) (pv 5))) pss_nil)) pss_nil))))
      (pss_one (ps_ret (pv 4)))), ?_⟩
    refine ⟨d, _, hd, trivial, fun od => ?_⟩
    refine ⟨_, rfl, d, od, rfl, .inl ⟨kvs, upd_same, ?_⟩⟩
    have kl : Keeps H (upd H d (.frz od (.dK kvs))) := keeps_dk hd
    have hRl := hR.keep kl
    have hOl := hO.lock (o := .frz od (.dK kvs)) hd
    have dofl := dof.keep kl
    have hal := kl _ _ ha
    have hrowl := hrow.mono fun _ _ x => PolyAt.keep x kl
    have fin : ∀ {H' : Hp}, Same (upd H d (.frz od (.dK kvs))) H' → Same H (upd H' d (.dK kvs)) := fun s => same_unlock hd s
    have hdl : (upd H d (.frz od (.dK kvs))) d = some (.frz od (.dK kvs)) := upd_same
    generalize upd H d (.frz od (.dK kvs)) = HL at kl hRl hOl dofl hal hrowl fin hdl
    refine for_it (walk_keys (kvs := kvs)) (fun i σ H' => Same HL H' ∧ i ≤ F.length ∧ ∃ v4 v5, σ = [some (.ref a), some (.ref d), some vo, some (.int (own : Nat)), some v4, v5] ∧ HighTo n row F own i v4)
      ⟨.refl _, Nat.zero_le _, .non, none, rfl, .inl ⟨rfl, fun x h => by simp at h⟩⟩ (fun i σ H' _ h => h.1 _ _ hdl) ?_ ?_
    · rintro i x σ H02 H' hi ⟨sm, hil, v4, v5, rfl, F1⟩ ⟨e00, ky, v, hkv, ex⟩
      subst e00
      obtain ⟨y, hy, ek, hyr⟩ := All2.get dofl hkv
      obtain ⟨e, g⟩ := y
      have ek' : ky = Sum.inl (e : Int) := ek
      subst ek'
      have ex : x = V.int (e : Nat) := ex
      subst ex
      have hyr : RowAt HL v g := hyr
      have hm : (e, g) ∈ F := List.mem_of_getElem? hy
      have hg : HeadIs p n e g := fok.hd _ hm
      have he := hg.lt
      have hi1 : i + 1 ≤ F.length := by
        have := (List.getElem?_eq_some_iff.mp hy).1
        omega
      obtain ⟨x1, hx1, ⟨ax, rfl, hax⟩⟩ := hrowl.getD_row (e := e) (by omega)
      obtain ⟨vg, hvg, hgr⟩ := dofl.get fok.nd hm
      obtain ⟨ag, vsg, rfl, hag, hgg⟩ := id hgr
      obtain ⟨y1, hy1, ⟨ay, rfl, hay⟩⟩ := hgg.getD_row (e := e) (by rw [hg.good.ok.len]; exact he)
      have dg : DGet H' d (.int (e : Nat)) (some (.ref ag)) := .inl ⟨kvs, Sum.inl (e : Int), .inr ⟨od, sm _ _ hdl⟩, rfl, hvg.symm⟩
      have gl := List.length_pos_iff.mpr hg.ne
      refine ⟨_, rfl, _, rfl, rfl, _, rfl, ?_⟩
      by_cases eo : e = own
      · -- the own one
        rw [decide_eq_true (show V.int (e : Nat) = V.int (own : Nat) by rw [eo])]
        refine ⟨sm, hi1, v4, _, rfl, ?_⟩
        rcases F1 with ⟨rfl, z⟩ | ⟨e0, g0, rfl, h1, h2, h3, h4⟩
        · refine .inl ⟨rfl, fun u hu hn => ?_⟩
          rcases mem_take_succ hy hu with h | h
          · exact z u h hn
          · rw [h] at hn
            exact absurd eo hn
        · refine .inr ⟨e0, g0, rfl, h1, h2, h3, fun u hu hn hl => ?_⟩
          rcases mem_take_succ hy hu with h | h
          · exact h4 u h hn hl
          · rw [h] at hn
            exact absurd eo hn
      rw [decide_eq_false (fun z => eo (by have := V.int.inj z; omega))]
      refine ⟨_, rfl, _, rfl, a, _, _, _, rfl, rfl, SqT.of (sm _ _ hal), atI_nat hx1, ax, _, rfl, .inr (SqT.of (sm _ _ hax)), ?_⟩
      refine ⟨_, rfl, _, rfl, d, _, rfl, dg, _, rfl, ag, _, _, _, rfl, rfl, SqT.of (sm _ _ hag), atI_nat hy1, ay, _, rfl, .inr (SqT.of (sm _ _ hay)), _, _, rfl, rfl, _, rfl, ?_⟩
      rw [List.length_map, List.length_map]
      by_cases hle : ((g.getD e []).length : Int) ≤ ((row.getD e []).length : Int)
      · rw [decide_eq_true hle]
        have rne : row.getD e [] ≠ [] := List.length_pos_iff.mp (by omega)
        rcases F1 with ⟨rfl, z⟩ | ⟨e0, g0, rfl, h1, h2, h3, h4⟩
        · refine ⟨_, rfl, rfl, _, rfl, ?_⟩
          refine ⟨_, rfl, sm, hi1, _, _, rfl, .inr ⟨e, g, rfl, hm, eo, by omega, fun u hu hn hl => ?_⟩⟩
          rcases mem_take_succ hy hu with h | h
          · have := z u h hn
            omega
          · rw [h]
            exact Nat.le_refl _
        · refine ⟨_, rfl, rfl, _, rfl, ?_⟩
          have hg0 := fok.hd _ h1
          have g0l := List.length_pos_iff.mpr hg0.ne
          have rne0 : row.getD e0 [] ≠ [] := List.length_pos_iff.mp (Nat.lt_of_lt_of_le g0l h3)
          have he0 : e0 < n := hg0.lt
          refine ⟨_, rfl, _, rfl, _, rfl, .ref a, vo, e, n, row, rfl, hRl.keep (.of sm), hn, hOl.keep sm, he, fun H3 u3 s3 hu3 => ?_⟩
          refine ⟨_, rfl, _, rfl, _, rfl, .ref a, vo, e0, n, row, rfl, hRl.keep (.of (sm.trans s3)), hn, hOl.keep (sm.trans s3), he0, fun H4 u4 s4 hu4 => ?_⟩
          obtain ⟨b3, rfl, hb3⟩ := hu3
          obtain ⟨b4, rfl, hb4⟩ := hu4
          refine ⟨b3, b4, _, _, rfl, rfl, SqT.of (s4 _ _ hb3), SqT.of hb4, _, rfl, ?_⟩
          rw [lexAt2, gt_rk he he0 rne rne0]
          have s5 := (sm.trans s3).trans s4
          by_cases gg : rk n row e0 < rk n row e
          · rw [decide_eq_true gg]
            refine ⟨_, rfl, s5, hi1, _, _, rfl, .inr ⟨e, g, rfl, hm, eo, by omega, fun u hu hn hl => ?_⟩⟩
            rcases mem_take_succ hy hu with h | h
            · have := h4 u h hn hl
              omega
            · rw [h]
              exact Nat.le_refl _
          · rw [decide_eq_false gg]
            refine ⟨s5, hi1, _, _, rfl, .inr ⟨e0, g0, rfl, h1, h2, h3, fun u hu hn hl => ?_⟩⟩
            rcases mem_take_succ hy hu with h | h
            · exact h4 u h hn hl
            · rw [h]
              show rk n row e ≤ rk n row e0
              omega
      · rw [decide_eq_false hle]
        refine ⟨sm, hi1, v4, _, rfl, ?_⟩
        rcases F1 with ⟨rfl, z⟩ | ⟨e0, g0, rfl, h1, h2, h3, h4⟩
        · refine .inl ⟨rfl, fun u hu hn => ?_⟩
          rcases mem_take_succ hy hu with h | h
          · exact z u h hn
          · rw [h]
            show (row.getD e []).length < (g.getD e []).length
            omega
        · refine .inr ⟨e0, g0, rfl, h1, h2, h3, fun u hu hn hl => ?_⟩
          rcases mem_take_succ hy hu with h | h
          · exact h4 u h hn hl
          · rw [h] at hl
            exact absurd (show ((g.getD e []).length : Int) ≤ ((row.getD e []).length : Int) by
              have : (g.getD e []).length ≤ (row.getD e []).length := hl
              omega) hle
    · rintro σ H' ⟨sm, hil, v4, v5, rfl, F1⟩
      rw [dofl.len] at F1
      exact ⟨sm _ _ hdl, _, rfl, q _ _ (fin sm) F1⟩
theorem scLowered : FnScope ["row", "found", "order", "own", "prime", "end"] ["row", "found", "order", "own", "prime"] (defScope sLowered) := ⟨rfl, rfl, rfl, by decide +kernel, rfl, by decide +kernel, by decide +kernel⟩
def spLowered : L2.Sp := fun vs H Q _ => ∃ (vr vo : V) (d : Addr) (own n : Nat) (p : Int) (row : Row) (F : Fnd) (kvs : List (Key × V)), vs = [vr, .ref d, vo, .int (own : Nat), .int p] ∧ RowAt H vr row ∧ H d = some (.dK kvs) ∧ DOf H kvs F ∧ p ∈ PRIMES ∧ n ≤ 12 ∧ FOk p n F ∧ HeadIs p n own row ∧ OrderAt H vo n ∧
  ∀ H' v c, Same H H' → RowAt H' v c → Lowered p n F own row c → Q v H'
theorem ok_lowered (D : IsDef K mg "lowered" sLowered ["row", "found", "order", "own", "prime"]) (T : Blt mg) (CH : Ok P w K mg base 2 "too_high" ["row", "found", "order", "own"] spHigh) (CL : Ok P w K mg base 3 "less_at" ["row", "other", "end", "prime"] spLess) :
    Ok P w K mg base 4 "lowered" ["row", "found", "order", "own", "prime"] spLowered := by
  refine D.ok scLowered (fun vs H Q E h => ?_) (fun f cdv A outer s H vs Q E hr h => ?_)
  · obtain ⟨vr, vo, d, own, n, p, row, F, kvs, rfl, _⟩ := h
    rfl
  · obtain ⟨vr, vo, d, own, n, p, row, F, kvs, rfl, hR, hd, dof, hp, hn, fok, hH, hO, q⟩ := h
    have p2 := prime_pos hp
    have pp : 0 < p := by omega
    have hu := hu_of hr
    have hr2 : Room 2 _ := hr.mono (by decide)
    refine ⟨_, pss_cons (ps_set (i := 5) scLowered.nd rfl (.inl rfl) (pe_c CH hr2 (by rfl) (pa_cons (pv 0) (pa_cons (pv 1) (pa_cons (pv 2) (pa_cons (pv 3) pa_nil))))))
      (pss_cons (ps_while PassesOwn.never (pt_cmpR op_notN (pv 5) pe_non (nomark _))
        (pss_cons (ps_set (i := 0) scLowered.nd rfl (.inl rfl) (pe_c CL hr (by rfl) (pa_cons (pv 0) (pa_cons (pe_dget hu (pv 1) (pv 5) (fun _ _ => rfl)) (pa_cons (pv 5) (pa_cons (pv 4) pa_nil))))))
        (pss_one (ps_set (i := 5) scLowered.nd rfl (.inl rfl) (pe_c CH hr2 (by rfl) (pa_cons (pv 0) (pa_cons (pv 1) (pa_cons (pv 2) (pa_cons (pv 3) pa_nil)))))))))
      (pss_one (ps_ret (pv 0)))), ?_⟩
    refine ⟨_, rfl, _, rfl, _, rfl, _, rfl, vr, vo, d, own, n, p, row, F, kvs, rfl, hR, hH.good.ok.len, hd, dof, fok, hO, fun H1 v1 s1 hv1 => ?_⟩
    refine ⟨fun M σ H' => ∃ vc v5 c, σ = [some vc, some (.ref d), some vo, some (.int (own : Nat)), some (.int p), some v5] ∧ Same H H' ∧ RowAt H' vc c ∧ LowI p n F own row c M ∧ HighTo n c F own F.length v5,
      ⟨_, vr, v1, row, rfl, s1, hR.keep (.of s1), LowI.start hH, hv1⟩, ?_⟩
    rintro M σ H' ⟨vc, v5, c, rfl, sm, hc, I, hv5⟩
    refine ⟨_, rfl, rfl, _, rfl, ?_⟩
    rcases hv5.cases with ⟨rfl, no⟩ | ⟨e, g, rfl, top⟩
    · exact ⟨_, rfl, q _ _ c sm hc (I.done pp fok hH no)⟩
    · obtain ⟨vg, hvg, hgr⟩ := dof.get fok.nd top.mem
      have hg : HeadIs p n e g := fok.hd _ top.mem
      have gl := List.length_pos_iff.mpr hg.ne
      have cne : c.getD e [] ≠ [] := List.length_pos_iff.mp (Nat.lt_of_lt_of_le gl top.le)
      refine ⟨fun σ' H2 => ∃ m', m' < M ∧ ∃ vc v5 c, σ' = [some vc, some (.ref d), some vo, some (.int (own : Nat)), some (.int p), some v5] ∧ Same H H2 ∧ RowAt H2 vc c ∧ LowI p n F own row c m' ∧ HighTo n c F own F.length v5, fun _ _ h => h, ?_⟩
      refine ⟨_, rfl, _, rfl, _, rfl, d, _, rfl, (hvg ▸ DGet.k (k := Sum.inl (e : Int)) (sm _ _ hd)), ?_⟩
      refine ⟨_, rfl, _, rfl, vc, vg, e, n, p, c, g, rfl, hc, hgr.keep (.of sm), hp, I.good.ok, hg.good.ok, hn, I.good.sh, hg.good.sh, hg.lt, cne, hg.ne, top.le, fun H3 v' c' k s3 hv' C z => ?_⟩
      obtain ⟨I2, lt⟩ := I.step pp fok hH top C z
      have s4 := sm.trans s3
      refine ⟨_, rfl, _, rfl, _, rfl, _, rfl, v', vo, d, own, n, p, c', F, kvs, rfl, hv', I2.good.ok.len, s4 _ _ hd, dof.keep (.of s4), fok, hO.keep s4, fun H4 v6 s5 hv6 => ?_⟩
      exact ⟨_, lt, v', v6, c', rfl, s4.trans s5, hv'.keep (.of s5), I2, hv6⟩
end
end K8

set_option Elab.async false
set_option linter.all false
set_option maxRecDepth 100000
set_option maxHeartbeats 4000000
namespace K8
open PySem PySem.Spec PyProof.Rows L2
abbrev sLed : Stmt := topS 27
abbrev sToldRows : Stmt := topS 28
theorem dc_list {K : PySem.W.Frag} {a : Addr} {xs : List V} {g : TG} {tt : TT} {tk tv : TE} {vs : List Nat} {σ : L2.St} {H1 : Hp} {D : Addr} {Qd : Hp → Prop} (Pv : Nat → Hp → Prop) (h0 : Pv 0 (upd H1 D (.dK []))) (hl : ∀ i H, i ≤ xs.length → Pv i H → SqL K H a xs)
    (hs : ∀ i x H, xs[i]? = some x → Pv i H → g x (wipe σ vs) H fun σ2 H2 => wipe σ2 vs = wipe σ vs ∧ tt σ2 H2 fun b H3 =>
      if b = true then tk σ2 H3 fun y H4 => tv σ2 H4 fun z H5 => ∃ kvs k, y = kV k ∧ H5 D = some (.dK kvs) ∧ kvs.length < sizeLine ∧ Pv (i + 1) (upd H5 D (.dK (putK kvs k z))) else Pv (i + 1) H3) (hd : ∀ H, Pv xs.length H → Qd H) :
    ∃ W : Nat → Nat → Hp → Prop, (∃ m, W 0 m (upd H1 D (.dK []))) ∧ ∀ i m H, W i m H →
      ((Itl K a).stop i H ∧ Qd H) ∨ ((Itl K a).go i H ∧ ∃ Nx : Hp → Prop, (∀ H', Nx H' → ∃ m', m' < m ∧ W (i + 1) m' H') ∧ ∀ x H', (Itl K a).yld i H x H' → g x (wipe σ vs) H' fun σ2 H2 => wipe σ2 vs = wipe σ vs ∧ tt σ2 H2 fun b H3 =>
        if b = true then tk σ2 H3 fun y H4 => tv σ2 H4 fun z H5 => ∃ kvs k, y = kV k ∧ H5 D = some (.dK kvs) ∧ kvs.length < sizeLine ∧ Nx (upd H5 D (.dK (putK kvs k z))) else Nx H3) := by
  refine ⟨fun i m H => m = xs.length - i ∧ i ≤ xs.length ∧ Pv i H, ⟨xs.length, by simp, Nat.zero_le _, h0⟩, ?_⟩
  rintro i m H ⟨rfl, hi, p⟩
  have q := hl i H hi p
  by_cases hlt : i < xs.length
  · refine .inr ⟨⟨xs, xs[i], q, by simp [hlt]⟩, Pv (i + 1), fun H' p' => ⟨xs.length - (i + 1), by omega, rfl, hlt, p'⟩, fun x H' y => ?_⟩
    obtain ⟨e, y⟩ := y
    subst e
    exact hs i x _ (y xs q) p
  · have e : i = xs.length := by omega
    subst e
    exact .inl ⟨⟨xs, q, Nat.le_refl _⟩, hd H p⟩
theorem LedI.more {p : Int} {n : Nat} {F0 F : Fnd} {dn dn' : List Nat} (I : LedI p n F0 F dn) (h : ∀ x ∈ dn', x ∈ dn) : LedI p n F0 F dn' := ⟨I.fok, I.keys, I.rks, fun x hx hd => I.red x hx (h _ hd), I.eqv⟩
theorem DOf.keys {H : Hp} : ∀ {kvs : List (Key × V)} {F : Fnd}, DOf H kvs F → kvs.map (·.1) = (F.map fun x => (x.1 : Int)).map Sum.inl
  | [], [], _ => rfl
  | kv :: kvs, x :: F, d => by
    rw [List.map_cons, List.map_cons, List.map_cons, d.1.1, DOf.keys d.2]
  | [], _ :: _, d => d.elim
  | _ :: _, [], d => d.elim
/-- the heads, sorted -/
theorem heads_sorted {F : Fnd} (nd : (F.map (·.1)).Nodup) {ys : List Int} (hp : ys.Perm (F.map fun x => (x.1 : Int))) (up : ys.Pairwise (· ≤ ·)) :
    ∃ es : List Nat, ys = es.map (fun e : Nat => (e : Int)) ∧ es.Pairwise (· < ·) ∧ ∀ e, e ∈ es ↔ e ∈ F.map (·.1) := by
  have nn : ∀ y ∈ ys, ((y.toNat : Nat) : Int) = y := fun y hy => by
    obtain ⟨x, _, rfl⟩ := List.mem_map.mp (hp.mem_iff.mp hy)
    omega
  have pe : (ys.map Int.toNat).Perm (F.map (·.1)) := by
    have := hp.map Int.toNat
    rw [List.map_map] at this
    exact this
  refine ⟨ys.map Int.toNat, ?_, ?_, fun e => pe.mem_iff⟩
  · rw [List.map_map]
    refine (List.map_id ys).symm.trans (List.map_congr_left fun y hy => (nn y hy).symm)
  · have n1 : (ys.map Int.toNat).Nodup := pe.nodup_iff.mpr nd
    have u1 : (ys.map Int.toNat).Pairwise (· ≤ ·) := List.pairwise_map.mpr (up.imp fun {a b} h => by
      show a.toNat ≤ b.toNat
      omega)
    exact (u1.and n1).imp fun {a b} h => Nat.lt_of_le_of_ne h.1 h.2
theorem SqLT.same {K : PySem.W.Frag} {H H' : Hp} {a : Addr} {xs : List V} (s : Same H H') (h : SqL K H a xs ∨ SqT K H a xs) : SqL K H' a xs ∨ SqT K H' a xs := h.imp s.seq (fun h => by
  rcases h with (h | ⟨o, h⟩) | h
  · exact .inl (.inl (s _ _ h))
  · exact .inl (.inr ⟨o, s _ _ h⟩)
  · exact .inr h)
theorem RowsAt.keep {K : PySem.W.Frag} {H H' : Hp} {v : V} {rows : List Row} (h : RowsAt K H v rows) (s : Same H H') : RowsAt K H' v rows := by
  obtain ⟨a, vs, e, q, r⟩ := h
  exact ⟨a, vs, e, SqLT.same s q, r.mono fun _ _ x => x.keep (.of s)⟩
section
variable {P : Program} {w : World} {K : PySem.W.Frag} {mg : Str → Option Value} {base : Heap}
theorem scLed : FnScope ["rows", "order", "prime", "found", "heads", "end"] ["rows", "order", "prime"] (defScope sLed) := ⟨rfl, rfl, rfl, by decide +kernel, rfl, by decide +kernel, by decide +kernel⟩
def spLed (K : PySem.W.Frag) : L2.Sp := fun vs H Q _ => ∃ (vr vo : V) (n : Nat) (p : Int) (rows : List Row), vs = [vr, vo, .int p] ∧ RowsAt K H vr rows ∧ OrderAt H vo n ∧ p ∈ PRIMES ∧ 0 < n ∧ n ≤ 12 ∧ rows.length ≤ 12 ∧ (∀ r ∈ rows, Good p n r) ∧
  ∀ H' d T, Same H H' → H d = none → DictAt H' d T → Led p n rows T → Q (.ref d) H'
theorem ok_led (D : IsDef K mg "led_rows" sLed ["rows", "order", "prime"]) (T : Blt mg) (CU : Ok P w K mg base 4 "unlike_heads" ["rows", "order", "prime"] (spUnlike K)) (CW : Ok P w K mg base 4 "lowered" ["row", "found", "order", "own", "prime"] spLowered)
    (CV : Ok P w K mg base 3 "level_at" ["row", "end", "prime"] spLevel) : Ok P w K mg base 5 "led_rows" ["rows", "order", "prime"] (spLed K) := by
  refine D.ok scLed (fun vs H Q E h => ?_) (fun f cdv A outer s H vs Q E hr h => ?_)
  · obtain ⟨vr, vo, n, p, rows, rfl, _⟩ := h
    rfl
  · obtain ⟨vr, vo, n, p, rows, rfl, hrows, hO, hp, hn0, hn, hlen, hg, q⟩ := h
    have p2 := prime_pos hp
    have pp : 0 < p := by omega
    have hu := hu_of hr
    have hr3 : Room 3 _ := hr.mono (by decide)
    refine ⟨_, pss_cons (ps_set (i := 3) scLed.nd rfl (Or.inr rfl) (pe_c CU hr (by rfl) (pa_cons (pv 0) (pa_cons (pv 1) (pa_cons (pv 2) pa_nil)))))
      (pss_cons (ps_set (i := 4) scLed.nd rfl (.inl rfl) (pe_callB (call_sortedDI rfl) (by rfl) T.sorted (by decide +kernel) (pa_cons (pv 3) pa_nil)))
      (pss_cons (ps_for PassesOwn.never rfl (pi_list (pv 4)) (pg_name (i := 5) scLed.nd rfl (.inl rfl))
        (pss_one (ps_dput hu (pv 3) (pv 5) (pe_c CW hr (by rfl) (pa_cons (pe_dget hu (pv 3) (pv 5) (fun _ _ => rfl)) (pa_cons (pv 3) (pa_cons (pv 1) (pa_cons (pv 5) (pa_cons (pv 2) pa_nil)))))) rfl)))
      (pss_one (ps_ret (pe_dc (own := [("end", 5)]) (g := gName 5) (tt := tYes) (by rfl) scLed.nd (pi_list (pv 4)) (blkOk_by (own := [("end", 5)]) (N := ["rows", "order", "prime", "found", "heads", "end"]) (sc := defScope sLed) (by decide +kernel))
        (fun _ _ _ _ _ => pg_name (i := 5) scLed.nd rfl (Or.inl rfl)) (fun _ _ _ _ _ => pts_nil) (fun _ _ _ _ _ => pv 5)
        (fun _ _ _ _ _ => pe_c CV hr3 (by rfl) (pa_cons (pe_dget hu (pv 3) (pv 5) (fun _ _ => rfl)) (pa_cons (pv 5) (pa_cons (pv 2) pa_nil))))))))), ?_⟩
    refine ⟨_, rfl, _, rfl, _, rfl, vr, vo, n, p, rows, rfl, hrows, hO, hp, hn0, hn, hlen, hg, fun H1 d F0 s1 hd0 ⟨kvs0, ed0, dof0⟩ fok0 eqv0 => ?_⟩
    -- heads = sorted(found)
    have few0 := fok0.few
    refine ⟨_, rfl, d, kvs0, F0.map fun x => (x.1 : Int), rfl, .inl ed0, ?_, by rw [List.length_map]; omega, fun ys hp1 hperm hup hnew => ?_⟩
    · exact dof0.keys
    obtain ⟨es, rfl, eup, emem⟩ := heads_sorted fok0.nd hperm hup
    rw [List.map_map]
    have s2 := s1.trans (same_new (o := .lst (es.map (V.int ∘ fun e : Nat => (e : Int)))) hnew)
    have ndh : d ≠ hp1 := ne_of_none ed0 hnew
    have hhp : H hp1 = none := s1.free hnew
    have ed1 := same_new (o := .lst (es.map (V.int ∘ fun e : Nat => (e : Int)))) hnew _ _ ed0
    have dof1 := dof0.keep (keeps_new (o := .lst (es.map (V.int ∘ fun e : Nat => (e : Int)))) hnew)
    have eh1 : (upd H1 hp1 (.lst (es.map (V.int ∘ fun e : Nat => (e : Int))))) hp1 = some (.lst (es.map (V.int ∘ fun e : Nat => (e : Int)))) := upd_same
    generalize upd H1 hp1 (.lst (es.map (V.int ∘ fun e : Nat => (e : Int)))) = H2 at s2 ed1 dof1 eh1
    have esl : es.length = (es.map (V.int ∘ fun e : Nat => (e : Int))).length := by rw [List.length_map]
    refine ⟨_, rfl, hp1, rfl, ⟨_, SqL.of eh1⟩, for_list (K := K) (a := hp1) (xs := es.map (V.int ∘ fun e : Nat => (e : Int))) (fun i σ H' => ∃ v5 F kvs, σ = [some vr, some vo, some (.int p), some (.ref d), some (.ref hp1), v5] ∧ Same H H' ∧ H' hp1 = some (.lst (es.map (V.int ∘ fun e : Nat => (e : Int)))) ∧ H' d = some (.dK kvs) ∧ DOf H' kvs F ∧ LedI p n F0 F (es.take i))
      ⟨none, F0, kvs0, rfl, s2, eh1, ed1, dof1, LedI.start fok0⟩ (fun i σ H' _ ⟨_, _, _, _, _, h, _⟩ => SqL.of h) ?_ ?_⟩
    · rintro i x σ H' hx ⟨v5, F, kvs, rfl, sm, eh, ed, dof, I⟩
      obtain ⟨e, he, rfl⟩ : ∃ e : Nat, es[i]? = some e ∧ x = V.int (e : Int) := by
        rw [List.getElem?_map] at hx
        cases c : es[i]? with
        | none => rw [c] at hx; cases hx
        | some e => rw [c] at hx; exact ⟨e, rfl, (Option.some.inj hx).symm⟩
      have hk : e ∈ F.map (·.1) := by
        rw [I.keys]
        exact (emem e).mp (List.mem_of_getElem? he)
      obtain ⟨y, hy, rfl⟩ := List.mem_map.mp hk
      obtain ⟨e, g⟩ := y
      obtain ⟨vg, hvg, hgr⟩ := dof.get I.fok.nd hy
      have hg0 : HeadIs p n e g := I.fok.hd _ hy
      refine ⟨_, rfl, _, rfl, d, _, rfl, (hvg ▸ DGet.k (k := Sum.inl (e : Int)) ed), _, rfl, _, rfl, _, rfl, _, rfl, ?_⟩
      refine ⟨vg, vo, d, e, n, p, g, F, kvs, rfl, hgr, ed, dof, hp, hn, I.fok, hg0, hO.keep sm, fun H3 v c t3 hv L => ?_⟩
      have ed3 := t3 _ _ ed
      refine ⟨_, rfl, _, rfl, d, _, rfl, DPut.k (k := Sum.inl (e : Int)) ed3 (by rw [dof.len]; exact small1000 (by have := I.fok.few; omega)), ?_⟩
      have k4 : Keeps H3 (upd H3 d (.dK (putK kvs (Sum.inl (e : Int)) v))) := keeps_dk ed3
      refine ⟨_, rput F e c, _, rfl, same_upd2 hd0 (sm.trans t3), by rw [upd_ne ndh.symm]; exact t3 _ _ eh, upd_same, ((dof.keep (.of t3)).keep k4).put I.fok.nd hy (hv.keep k4), ?_⟩
      rw [List.take_add_one, he]
      exact I.step hy L
    · rintro σ H' ⟨v5, F, kvs, rfl, sm, eh, ed, dof, I⟩
      rw [← esl, List.take_length] at I
      have I2 : LedI p n F0 F (F0.map (·.1)) := I.more fun x hx => (emem x).mpr hx
      refine ⟨_, rfl, hp1, rfl, ⟨_, SqL.of eh⟩, fun L hL => ?_⟩
      have hL0 : H L = none := sm.free hL
      refine dc_list (xs := es.map (V.int ∘ fun e : Nat => (e : Int))) (fun i H3 => ∃ T kvT, Same H' H3 ∧ i ≤ es.length ∧ H3 L = some (.dK kvT) ∧ DOf H3 kvT T ∧ T.map (·.1) = es.take i ∧ ∀ x ∈ T, ∃ g, (x.1, g) ∈ F ∧ Lev p n x.1 g x.2)
        ⟨[], [], same_new hL, Nat.zero_le _, upd_same, trivial, rfl, fun x h => (nomatch h)⟩ (fun i H3 _ ⟨_, _, h, _⟩ => SqL.of (h _ _ eh)) ?_ ?_
      · rintro i x H3 hx ⟨T1, kvT, t3, hi, eL, dT, kT, lv⟩
        obtain ⟨e, he, rfl⟩ : ∃ e : Nat, es[i]? = some e ∧ x = V.int (e : Int) := by
          rw [List.getElem?_map] at hx
          cases c : es[i]? with
          | none => rw [c] at hx; cases hx
          | some e => rw [c] at hx; exact ⟨e, rfl, (Option.some.inj hx).symm⟩
        have hil := (List.getElem?_eq_some_iff.mp he).1
        have hk : e ∈ F.map (·.1) := by
          rw [I.keys]
          exact (emem e).mp (List.mem_of_getElem? he)
        obtain ⟨y, hy, rfl⟩ := List.mem_map.mp hk
        obtain ⟨e, g⟩ := y
        obtain ⟨vg, hvg, hgr⟩ := dof.get I.fok.nd hy
        have hg0 : HeadIs p n e g := I.fok.hd _ hy
        refine ⟨rfl, ?_⟩
        refine ⟨_, rfl, _, rfl, _, rfl, d, _, rfl, (hvg ▸ DGet.k (k := Sum.inl (e : Int)) (t3 _ _ ed)), _, rfl, _, rfl, ?_⟩
        refine ⟨vg, e, n, p, g, rfl, hgr.keep (.of t3), hp, hg0.good.ok, hn, hg0.good.sh, hg0.lt, hg0.ne, fun H4 v r k t4 hv C u => ?_⟩
        have nk : e ∉ T1.map (·.1) := by
          rw [kT]
          intro hm
          obtain ⟨j, hj⟩ := List.mem_iff_getElem?.mp hm
          rw [List.getElem?_take] at hj
          split at hj
          · rename_i jl
            obtain ⟨j1, j2⟩ := List.getElem?_eq_some_iff.mp hj
            obtain ⟨i1, i2⟩ := List.getElem?_eq_some_iff.mp he
            have := List.pairwise_iff_getElem.mp eup j i j1 i1 jl
            rw [j2, i2] at this
            exact Nat.lt_irrefl _ this
          · cases hj
        have kl : kvT.length = i := by
          have a := All2.len dT
          have b := congrArg List.length kT
          rw [List.length_map, List.length_take] at b
          omega
        have es12 : es.length ≤ 1000 := by
          have := pigeon n es (eup.imp fun {a b} h => Nat.ne_of_lt h) fun x hx => by
            obtain ⟨y, hy, rfl⟩ := List.mem_map.mp ((emem x).mp hx)
            exact (fok0.hd y hy).lt
          omega
        have k5 : Keeps H4 (upd H4 L (.dK (putK kvT (Sum.inl (e : Int)) v))) := keeps_dk (t4 _ _ eL)
        refine ⟨kvT, Sum.inl (e : Int), rfl, t4 _ _ eL, small1000 (by omega), T1 ++ [(e, r)], _, same_upd2 hL (t3.trans t4), hil, upd_same, ((dT.keep (.of t4)).keep k5).new nk (hv.keep k5), ?_, fun x hx => ?_⟩
        · rw [List.map_append, kT, List.take_add_one, he]
          rfl
        · rcases List.mem_append.mp hx with hx | hx
          · exact lv x hx
          · rw [List.mem_singleton] at hx
            subst hx
            exact ⟨g, hy, ⟨k, C, u⟩⟩
      · rintro H3 ⟨T1, kvT, t3, hi, eL, dT, kT, lv⟩
        rw [← esl, List.take_length] at kT
        refine q H3 L T1 (sm.trans t3) hL0 ⟨kvT, eL, dT⟩ (Led.of hp I2 eqv0 ?_ (fun y hy => ?_) lv)
        · have := eup
          rw [← kT, List.pairwise_map] at this
          exact this
        · have : y.1 ∈ T1.map (·.1) := by
            rw [kT]
            refine (emem _).mpr ?_
            rw [← I.keys]
            exact List.mem_map.mpr ⟨y, hy, rfl⟩
          obtain ⟨x, hx, e⟩ := List.mem_map.mp this
          exact ⟨x, hx, e⟩
end
end K8

set_option Elab.async false
set_option linter.all false
set_option maxRecDepth 100000
set_option maxHeartbeats 4000000
namespace K8
open PySem PySem.Spec PyProof.Rows L2
abbrev sIsEq : Stmt := topS 32
abbrev sNeedR : Stmt := topS 33
abbrev sNeedT : Stmt := topS 34
abbrev sTold : Stmt := topS 35
/-! ### enumerate of a list or a tuple -/
def iEnumA (K : PySem.W.Frag) (ta : TA) : TI := fun σ H R => ta σ H fun vs H1 => ∃ a xs, vs = [.ref a] ∧ ((SqL K H1 a xs ∧ R (Ite K a) H1) ∨ (SqT K H1 a xs ∧ R (IteT K a) H1))
theorem pi_enumA {X : Cx} {e : Expr} {ta : TA} {p pos tpos : Pos} {elts : List Expr} {kk : Nat} (hg : Gl X "enumerate") (hm : X.mg "enumerate" = none) (ha : PA X [e] ta) (hs : starEach [e] X.env = [(false, eval e X.env)] := by rfl) :
    PI X (.Tuple elts kk tpos) (.Call (.Name "enumerate" p) [e] [] pos) (iEnumA X.K ta) := by
  refine ⟨fun pins s σ H R I h => ?_⟩
  refine Call_ (ld_blt I hg hm boot_enumerate (PyProof.Rows.callWith_type1 (thn (ha.run pos pins s σ H _ I h) fun us s1 ⟨vs, H1, I1, r1, q1⟩ => ?_) hs rfl))
  obtain ⟨a, xs, ex, hq⟩ := q1
  subst ex
  cases r1 with
  | cons r rr =>
    cases rr
    cases r
    have fr : ∀ b, b ∈ [s1.heap.objs.size + 1, s1.heap.objs.size] → FpOk X pins H1 b := fun b hb => by
      have e' : b = s1.heap.objs.size + 1 ∨ b = s1.heap.objs.size := by simpa using hb
      have hle : s1.heap.objs.size ≤ b := by
        rcases e' with z | z
        · rw [z]; exact Nat.le_add_right _ _
        · rw [z]; exact Nat.le_refl _
      exact I1.fpOk hle (I1.hok.fresh hle)
    rcases hq with ⟨hq, q⟩ | ⟨hq, q⟩
    · obtain ⟨its, rv, p', hz⟩ := I1.list hq
      refine call_enumerate_list p'.isList fun h' he hit hsz hk => wpAny_pyIter_enum he ?_
      have I2 : Inv X pins σ H1 { s1 with heap := h' } := I1.kept (t' := s1.toks) hk
      exact ⟨s1.heap.objs.size + 1, [s1.heap.objs.size + 1, s1.heap.objs.size], _, _, H1, rfl, I2, turn_enum a (s1.heap.objs.size + 1) s1.heap.objs.size, ⟨⟨.none, he⟩, hit, Nat.succ_ne_self _⟩, fr, q⟩
    · obtain ⟨its, rv, p', hz⟩ := I1.tuple hq
      refine call_enumT (show s1.heap.IsTuple a its.toArray from p') fun h' he hit hsz hk => wpAny_pyIter_enum he ?_
      have I2 : Inv X pins σ H1 { s1 with heap := h' } := I1.kept (t' := s1.toks) hk
      exact ⟨s1.heap.objs.size + 1, [s1.heap.objs.size + 1, s1.heap.objs.size], _, _, H1, rfl, I2, turn_enumT a (s1.heap.objs.size + 1) s1.heap.objs.size, ⟨⟨.none, he⟩, hit, Nat.succ_ne_self _⟩, fr, q⟩
theorem for_enumA {K : PySem.W.Frag} {a : Addr} {xs : List V} {g : TG} {tb : TS} {D : Ends} {σ : L2.St} {H : Hp} (h : SqL K H a xs ∨ SqT K H a xs) (Pv : Nat → L2.St → Hp → Prop) (h0 : Pv 0 σ H) (hq : ∀ i σ H', Pv i σ H' → Same H H')
    (hs : ∀ i x T σ H, xs[i]? = some x → Pv i σ H → H T = none → g (.ref T) σ (upd H T (.tup [.int (i : Nat), x])) fun σ2 H2 => tb { D with nx := Pv (i + 1), ct := Pv (i + 1), bk := D.nx } σ2 H2) (hd : ∀ σ H, Pv xs.length σ H → D.nx σ H) :
    (SqL K H a xs ∧ ∃ W : Nat → Nat → L2.St → Hp → Prop, (∃ m, W 0 m σ H) ∧ ∀ i m σ H, W i m σ H →
      ((Ite K a).stop i H ∧ D.nx σ H) ∨ ((Ite K a).go i H ∧ ∃ N : L2.St → Hp → Prop, (∀ σ' H', N σ' H' → ∃ m', m' < m ∧ W (i + 1) m' σ' H') ∧ ∀ x H', (Ite K a).yld i H x H' → g x σ H' fun σ2 H2 => tb { D with nx := N, ct := N, bk := D.nx } σ2 H2)) ∨
    (SqT K H a xs ∧ ∃ W : Nat → Nat → L2.St → Hp → Prop, (∃ m, W 0 m σ H) ∧ ∀ i m σ H, W i m σ H →
      ((IteT K a).stop i H ∧ D.nx σ H) ∨ ((IteT K a).go i H ∧ ∃ N : L2.St → Hp → Prop, (∀ σ' H', N σ' H' → ∃ m', m' < m ∧ W (i + 1) m' σ' H') ∧ ∀ x H', (IteT K a).yld i H x H' → g x σ H' fun σ2 H2 => tb { D with nx := N, ct := N, bk := D.nx } σ2 H2)) := by
  rcases h with h | h
  · refine .inl ⟨h, for_it walk_enum Pv h0 (fun i σ' H' _ p => (hq i σ' H' p).seq h) (fun i x σ' H' H2 _ p y => ?_) hd⟩
    obtain ⟨T, x1, y1, rfl, n, rfl, e1, e2⟩ := y
    cases e1
    exact hs i y1 T σ' H' e2 p n
  · refine .inr ⟨h, for_enumT Pv h0 (fun i σ' H' p => ?_) hs hd⟩
    have := SqLT.same (K := K) (hq i σ' H' p) (.inr h)
    rcases this with z | z
    · rcases h with (h | ⟨o, h⟩) | h
      · exact .inl (.inl ((hq i σ' H' p) _ _ h))
      · exact .inl (.inr ⟨o, (hq i σ' H' p) _ _ h⟩)
      · exact .inr h
    · exact z
section
variable {P : Program} {w : World} {K : PySem.W.Frag} {mg : Str → Option Value} {base : Heap}
theorem scToldRows : FnScope ["rows", "width", "prime", "found", "end"] ["rows", "width", "prime"] (defScope sToldRows) := ⟨rfl, rfl, rfl, by decide +kernel, rfl, by decide +kernel, by decide +kernel⟩
def spToldRows (K : PySem.W.Frag) : L2.Sp := fun vs H Q _ => ∃ (vr : V) (n : Nat) (p : Int) (rows : List Row), vs = [vr, .int (n : Nat), .int p] ∧ RowsAt K H vr rows ∧ p ∈ PRIMES ∧ 0 < n ∧ n ≤ 12 ∧ rows.length ≤ 12 ∧ (∀ r ∈ rows, Good p n r) ∧
  ∀ H' L T vs, Same H H' → H L = none → H' L = some (.lst vs) → All2 (RowAt H') vs (rowsF T) → Led p n rows T → Q (.ref L) H'
theorem ok_toldrows (D : IsDef K mg "told_rows" sToldRows ["rows", "width", "prime"]) (CP : Ok P w K mg base 1 "plain_order" ["width"] spPlain) (CL : Ok P w K mg base 5 "led_rows" ["rows", "order", "prime"] (spLed K)) : Ok P w K mg base 6 "told_rows" ["rows", "width", "prime"] (spToldRows K) := by
  refine D.ok scToldRows (fun vs H Q E h => ?_) (fun f cdv A outer s H vs Q E hr h => ?_)
  · obtain ⟨vr, n, p, rows, rfl, _⟩ := h
    rfl
  · obtain ⟨vr, n, p, rows, rfl, hrows, hp, hn0, hn, hlen, hg, q⟩ := h
    have hu := hu_of hr
    have hr1 : Room 1 _ := hr.mono (by decide)
    refine ⟨_, pss_cons (ps_set (i := 3) scToldRows.nd rfl (Or.inr rfl) (pe_c CL hr (by rfl) (pa_cons (pv 0) (pa_cons (pe_c CP hr1 (by rfl) (pa_cons (pv 1) pa_nil)) (pa_cons (pv 2) pa_nil)))))
      (pss_one (ps_ret (pe_lock (pe_lc (own := [("end", 4)]) (g := gName 4) (tt := tYes) (by rfl) scToldRows.nd (pi_keys (pv 3)) (blkOk_by (own := [("end", 4)]) (N := ["rows", "width", "prime", "found", "end"]) (sc := defScope sToldRows) (by decide +kernel))
        (fun _ _ _ _ _ => pg_name (i := 4) scToldRows.nd rfl (Or.inl rfl)) (fun _ _ _ _ _ => pts_nil) (fun _ _ _ _ _ => pe_dget hu (pv 3) (pv 4) (fun _ _ => rfl)))))), ?_⟩
    refine ⟨_, rfl, _, rfl, n, rfl, by omega, fun H1 vo s1 hO => ?_⟩
    refine ⟨_, rfl, vr, vo, n, p, rows, rfl, hrows.keep s1, hO, hp, hn0, hn, hlen, hg, fun H2 d T s2 hd0 ⟨kvs, ed, dof⟩ led => ?_⟩
    refine ⟨d, _, ed, trivial, fun od => ?_⟩
    refine ⟨_, rfl, d, od, rfl, .inl ⟨kvs, upd_same, fun L hL => ?_⟩⟩
    have kl : Keeps H2 (upd H2 d (.frz od (.dK kvs))) := keeps_dk ed
    have dofl := dof.keep kl
    have hdl : (upd H2 d (.frz od (.dK kvs))) d = some (.frz od (.dK kvs)) := upd_same
    have ndL : d ≠ L := ne_of_none hdl hL
    have hL2 : H2 L = none := by rwa [upd_ne ndL.symm] at hL
    have hL0 : H L = none := (s1.trans s2).free hL2
    have nd : (T.map (·.1)).Nodup := by
      have := led.told.sorted
      rw [List.pairwise_map] at this
      rw [List.nodup_iff_pairwise_ne, List.pairwise_map]
      refine this.imp_of_mem fun {x y} hx hy h => ?_
      have h' : rk n x.2 x.1 % n < rk n y.2 y.1 % n := h
      rw [rk_mod x.2 (led.good x hx).lt, rk_mod y.2 (led.good y hy).lt] at h'
      exact Nat.ne_of_lt h'
    have fin : ∀ {H' : Hp}, Same (upd H2 d (.frz od (.dK kvs))) H' → Same H2 (upd H' d (.dK kvs)) := fun s => same_unlock ed s
    have tl : T.length ≤ 1000 := by
      have := pigeon n (T.map (·.1)) nd fun x hx => by
        obtain ⟨y, hy, rfl⟩ := List.mem_map.mp hx
        exact (led.good y hy).lt
      rw [List.length_map] at this
      omega
    generalize upd H2 d (.frz od (.dK kvs)) = HL at kl dofl hdl hL fin
    refine lc_it (walk_keys (kvs := kvs)) (fun i H' => Same HL H' ∧ i ≤ T.length ∧ ∃ vs, H' L = some (.lst vs) ∧ All2 (RowAt H') vs (rowsF (T.take i)))
      ⟨same_new hL, Nat.zero_le _, [], upd_same, trivial⟩ (fun i H' _ h => h.1 _ _ hdl) ?_ ?_
    · rintro i x H02 H' hi ⟨sm, hil, vs, eL, z⟩ ⟨e00, ky, v, hkv, ex⟩
      subst e00
      obtain ⟨y, hy, ek, hyr⟩ := All2.get dofl hkv
      obtain ⟨e, g⟩ := y
      have ek' : ky = Sum.inl (e : Int) := ek
      subst ek'
      have ex : x = V.int (e : Nat) := ex
      subst ex
      have hm : (e, g) ∈ T := List.mem_of_getElem? hy
      have hi1 := (List.getElem?_eq_some_iff.mp hy).1
      obtain ⟨vg, hvg, hgr⟩ := dofl.get nd hm
      refine ⟨rfl, ?_⟩
      refine ⟨_, rfl, _, rfl, d, _, rfl, .inl ⟨kvs, Sum.inl (e : Int), .inr ⟨od, sm _ _ hdl⟩, rfl, hvg.symm⟩, vs, eL, ?_, same_upd2 hL sm, hi1, vs ++ [vg], upd_same, ?_⟩
      · rw [z.len, List.length_map, List.length_take]
        exact small1000 (by omega)
      · have k5 : Keeps H' (upd H' L (.lst (vs ++ [vg]))) := keeps_lst eL
        unfold rowsF
        rw [List.take_add_one, hy, List.map_append]
        exact (z.mono fun _ _ x => RowAt.keep x k5).snoc ((hgr.keep (.of sm)).keep k5)
    · rintro H' ⟨sm, hil, vs, eL, z⟩
      have e0 : kvs.length = T.length := dof.len
      rw [e0, List.take_length] at z
      refine ⟨sm _ _ hdl, ?_⟩
      have k6 : Keeps H' (upd H' d (.dK kvs)) := fun b xs e => by
        rw [upd_ne (ne_of e (sm _ _ hdl) (by intro z; cases z))]
        exact e
      exact q _ L T vs ((s1.trans s2).trans (fin sm)) hL0 (by rw [upd_ne ndL.symm]; exact eL) (z.mono fun _ _ x => RowAt.keep x k6) led
theorem scIsEq : FnScope ["row", "width", "prime", "one"] ["row", "width", "prime"] (defScope sIsEq) := ⟨rfl, rfl, rfl, by decide +kernel, rfl, by decide +kernel, by decide +kernel⟩
def spIsEq : L2.Sp := fun vs H Q _ => ∃ (vr : V) (n : Nat) (p : Int) (row : Row), vs = [vr, .int (n : Nat), .int p] ∧ RowAt H vr row ∧ Good p n row ∧ n ≤ 12 ∧ ∀ H', Same H H' → Q (.bl true) H'
theorem ok_iseq (D : IsDef K mg "is_equation" sIsEq ["row", "width", "prime"]) (T : Blt mg) (C : Ok P w K mg base 3 "is_sum" ["thing", "prime"] spIsSum) : Ok P w K mg base 4 "is_equation" ["row", "width", "prime"] spIsEq := by
  refine D.ok scIsEq (fun vs H Q E h => ?_) (fun f cdv A outer s H vs Q E hr h => ?_)
  · obtain ⟨vr, n, p, row, rfl, _⟩ := h
    rfl
  · obtain ⟨vr, n, p, row, rfl, ⟨a, vs, rfl, ha, hrow⟩, hg, hn, q⟩ := h
    refine ⟨_, pss_one (ps_ret (pe_and (pe_callB call_isi (by rfl) T.isinstance (by decide +kernel) (pa_cons (pv 0) (pa_cons (pe_bltn (v := .ty "tuple") (by rfl) T.tuple (by decide +kernel) rfl) pa_nil)))
      (pe_and (pe_cmpR op_eq (pe_callB call_len_seq (by rfl) T.len PySem.boot_len (pa_cons (pv 0) pa_nil)) (pv 1) (nomark _))
      (pe_one (pe_callB (cr_all rfl) (by rfl) T.all (by decide +kernel) (pa_cons (pe_lc (own := [("one", 3)]) (g := gName 3) (tt := tYes) (by rfl) scIsEq.nd (pi_tup (pv 0)) (blkOk_by (own := [("one", 3)]) (N := ["row", "width", "prime", "one"]) (sc := defScope sIsEq) (by decide +kernel))
        (fun _ _ _ _ _ => pg_name (i := 3) scIsEq.nd rfl (Or.inl rfl)) (fun _ _ _ _ _ => pts_nil) (fun _ _ _ _ _ => pe_c C hr (by rfl) (pa_cons (pv 3) (pa_cons (pv 2) pa_nil)))) pa_nil)))))), ?_⟩
    refine ⟨_, rfl, _, _, _, _, true, rfl, .ty "tuple", .base (.tup ha), kit_ty (by decide +kernel), true, rfl, iteT ?_⟩
    refine ⟨_, rfl, a, _, rfl, .inr (SqT.of ha), _, rfl, rfl, true, ?_, iteT ?_⟩
    · rw [hrow.len, hg.ok.len, decide_eq_true rfl]
    refine ⟨_, rfl, a, rfl, ⟨_, SqT.of ha⟩, fun L hL => ?_⟩
    refine lc_tup (xs := vs) (fun i H' => Same H H' ∧ H' L = some (.lst ((List.replicate i true).map V.bl))) ⟨same_new hL, upd_same⟩ (fun i H' _ h => SqT.of (h.1 _ _ ha)) ?_ ?_
    · rintro i x H' hx ⟨sm, eL⟩
      obtain ⟨l, hl, hxl⟩ := hrow.get hx
      have hm := List.mem_of_getElem? hl
      refine ⟨rfl, ?_⟩
      refine ⟨_, rfl, _, rfl, x, p, l, rfl, hxl.keep (.of sm), hg.ok.can l hm, hg.sh l hm, fun H2 s2 => ⟨_, s2 _ _ eL, ?_, same_upd2 hL (sm.trans s2), ?_⟩⟩
      · rw [List.length_map, List.length_replicate]
        have := (List.getElem?_eq_some_iff.mp hl).1
        have := hg.ok.len
        exact small1000 (by omega)
      · rw [upd_same, trues_snoc]
    · rintro H' ⟨sm, eL⟩
      refine ⟨L, _, rfl, SqL.of eL, ?_⟩
      rw [all_trues]
      exact q _ sm
theorem scNeedR : FnScope ["rows", "width", "prime", "most", "at", "row"] ["rows", "width", "prime", "most"] (defScope sNeedR) := ⟨rfl, rfl, rfl, by decide +kernel, rfl, by decide +kernel, by decide +kernel⟩
def spNeedR (K : PySem.W.Frag) : L2.Sp := fun vs H Q _ => ∃ (vr : V) (n : Nat) (p : Int) (rows : List Row), vs = [vr, .int (n : Nat), .int p, .int 12] ∧ RowsAt K H vr rows ∧ rows.length ≤ 12 ∧ n ≤ 12 ∧ (∀ r ∈ rows, Good p n r) ∧ ∀ H', Same H H' → Q .non H'
theorem ok_needr (D : IsDef K mg "need_rows" sNeedR ["rows", "width", "prime", "most"]) (T : Blt mg) (C : Ok P w K mg base 4 "is_equation" ["row", "width", "prime"] spIsEq) : Ok P w K mg base 5 "need_rows" ["rows", "width", "prime", "most"] (spNeedR K) := by
  refine D.ok scNeedR (fun vs H Q E h => ?_) (fun f cdv A outer s H vs Q E hr h => ?_)
  · obtain ⟨vr, n, p, rows, rfl, _⟩ := h
    rfl
  · obtain ⟨vr, n, p, rows, rfl, ⟨a, vs, rfl, ha, hrows⟩, hlen, hn, hg, q⟩ := h
    refine ⟨_, pss_one (ps_for PassesOwn.never rfl (pi_enumA rfl T.enumerate (pa_cons (pv 0) pa_nil)) (pg_tup rfl (pgs_cons (pg_name (i := 4) scNeedR.nd rfl (.inl rfl)) (pgs_cons (pg_name (i := 5) scNeedR.nd rfl (.inl rfl)) pgs_nil)))
      (pss_one (ps_if (PW.pt (pw_or (pt_cmpR op_eq (pv 4) (pv 3) (nomark _)) (pw_or1 (pt_not (pt_val (pe_c C hr (by rfl) (pa_cons (pv 5) (pa_cons (pv 1) (pa_cons (pv 2) pa_nil))))))))) (pss_one ps_never) pss_nil))), ?_⟩
    refine ⟨_, rfl, a, vs, rfl, ?_⟩
    refine for_enumA (xs := vs) ha (fun i σ H' => Same H H' ∧ ∃ v4 v5, σ = [some (.ref a), some (.int (n : Nat)), some (.int p), some (.int 12), v4, v5]) ⟨.refl _, none, none, rfl⟩ (fun i σ H' h => h.1) ?_ ?_
    · rintro i x Tt σ H' hx ⟨sm, v4, v5, rfl⟩ hT
      obtain ⟨r, hr1, hxr⟩ := hrows.get hx
      have hil := (List.getElem?_eq_some_iff.mp hr1).1
      have sT := sm.trans (same_new (o := .tup [.int (i : Nat), x]) hT)
      refine ⟨Tt, _, rfl, SqT.of upd_same, rfl, _, _, rfl, _, _, rfl, rfl, ?_⟩
      refine ⟨_, rfl, _, rfl, rfl, _, rfl, ?_⟩
      rw [decide_eq_false (fun z => by have := V.int.inj z; omega)]
      refine ⟨_, rfl, _, rfl, _, rfl, x, n, p, r, rfl, hxr.keep (.of sT), hg r (List.mem_of_getElem? hr1), hn, fun H2 s2 => ⟨true, rfl, ?_⟩⟩
      exact ⟨sT.trans s2, _, _, rfl⟩
    · rintro σ H' ⟨sm, v4, v5, rfl⟩
      exact q _ sm
theorem scNeedT : FnScope ["rows", "width", "prime"] ["rows", "width", "prime"] (defScope sNeedT) := ⟨rfl, rfl, rfl, by decide +kernel, rfl, by decide +kernel, by decide +kernel⟩
def spNeedT (K : PySem.W.Frag) : L2.Sp := fun vs H Q _ => ∃ (vr : V) (n : Nat) (p : Int) (rows : List Row), vs = [vr, .int (n : Nat), .int p] ∧ RowsAt K H vr rows ∧ p ∈ PRIMES ∧ rows.length ≤ 12 ∧ 0 < n ∧ n ≤ 12 ∧ (∀ r ∈ rows, Good p n r) ∧ ∀ H', Same H H' → Q .non H'
theorem ok_needt (D : IsDef K mg "need_table" sNeedT ["rows", "width", "prime"]) (M1 : NumAt mg "MOST_WIDTH" 12) (M2 : NumAt mg "MOST_ROWS" 12) (CP : Ok P w K mg base 3 "need_prime" ["prime"] spNeedP) (CW : Ok P w K mg base 1 "is_whole" ["thing"] spWhole)
    (CR : Ok P w K mg base 5 "need_rows" ["rows", "width", "prime", "most"] (spNeedR K)) : Ok P w K mg base 6 "need_table" ["rows", "width", "prime"] (spNeedT K) := by
  obtain ⟨t1, g1⟩ := M1
  obtain ⟨t2, g2⟩ := M2
  refine D.ok scNeedT (fun vs H Q E h => ?_) (fun f cdv A outer s H vs Q E hr h => ?_)
  · obtain ⟨vr, n, p, rows, rfl, _⟩ := h
    rfl
  · obtain ⟨vr, n, p, rows, rfl, hrows, hp, hlen, hn0, hn, hg, q⟩ := h
    have hr3 : Room 3 _ := hr.mono (by decide)
    have hr1 : Room 1 _ := hr.mono (by decide)
    refine ⟨_, pss_cons (ps_expr (pe_c CP hr3 (by rfl) (pa_cons (pv 2) pa_nil)))
      (pss_cons (ps_if (PW.pt (pw_or (pt_not (pt_val (pe_c CW hr1 (by rfl) (pa_cons (pv 1) pa_nil)))) (pw_or1 (pt_not (pt_chain op_le op_le pe_int (pv 1) (pe_glob (v := .int 12) (by rfl) g1 ⟨_, rfl⟩)))))) (pss_one ps_never) pss_nil)
      (pss_one (ps_expr (pe_c CR hr (by rfl) (pa_cons (pv 0) (pa_cons (pv 1) (pa_cons (pv 2) (pa_cons (pe_glob (v := .int 12) (by rfl) g2 ⟨_, rfl⟩) pa_nil)))))))), ?_⟩
    refine ⟨_, rfl, p, rfl, hp, ?_⟩
    refine ⟨_, rfl, _, rfl, true, rfl, ?_⟩
    refine ⟨_, rfl, _, _, rfl, rfl, true, ?_, ?_⟩
    · show V.bl (decide ((1 : Int) ≤ (n : Nat))) = _
      rw [decide_eq_true (by omega)]
    refine ⟨_, _, rfl, rfl, true, ?_, ?_⟩
    · show V.bl (decide (((n : Nat) : Int) ≤ 12)) = _
      rw [decide_eq_true (by omega)]
    exact ⟨_, rfl, _, rfl, _, rfl, vr, n, p, rows, rfl, hrows, hlen, hn, hg, fun H' s => q _ s⟩
theorem scTold : FnScope ["rows", "width", "prime"] ["rows", "width", "prime"] (defScope sTold) := ⟨rfl, rfl, rfl, by decide +kernel, rfl, by decide +kernel, by decide +kernel⟩
/-- told as it may be called, prime by its name -/
def OkT (P : Program) (w : World) (K : PySem.W.Frag) (mg : Str → Option Value) (base : Heap) (k : Nat) (sp : L2.Sp) : Prop :=
  ∃ f fd, FnOk P w K mg base CX0 k f fd ["rows", "width", "prime"] sp ∧ mg "told" = some (.ref f) ∧ PySem.W.keepIn K (.ref f) = true ∧ KBn K fd ["rows", "width", "prime"] 2 ["prime"] (fun us ws => us ++ ws) (fun vs zs => vs ++ zs)
theorem ok_told (D : ∃ f fd, Fun K "told" "told" sTold f fd ∧ mg "told" = some (.ref f)) (CN : Ok P w K mg base 6 "need_table" ["rows", "width", "prime"] (spNeedT K)) (CT : Ok P w K mg base 6 "told_rows" ["rows", "width", "prime"] (spToldRows K)) : OkT P w K mg base 7 (spToldRows K) := by
  obtain ⟨f, fd, F, g⟩ := D
  refine ⟨f, fd, F.ok scTold (fun vs H Q E h => ?_) (fun cdv A outer s H vs Q E hr h => ?_), g, F.kp, ?_⟩
  · obtain ⟨vr, n, p, rows, rfl, _⟩ := h
    rfl
  · obtain ⟨vr, n, p, rows, rfl, hrows, hp, hn0, hn, hlen, hg, q⟩ := h
    refine ⟨_, pss_cons (ps_expr (pe_c CN hr (by rfl) (pa_cons (pv 0) (pa_cons (pv 1) (pa_cons (pv 2) pa_nil)))))
      (pss_one (ps_ret (pe_c CT hr (by rfl) (pa_cons (pv 0) (pa_cons (pv 1) (pa_cons (pv 2) pa_nil)))))), ?_⟩
    refine ⟨_, rfl, _, rfl, _, rfl, vr, n, p, rows, rfl, hrows, hp, hlen, hn0, hn, hg, fun H1 s1 => ?_⟩
    exact ⟨_, rfl, _, rfl, _, rfl, vr, n, p, rows, rfl, hrows.keep s1, hp, hn0, hn, hlen, hg, fun H' L T vs s2 hL eL z led => q _ _ _ _ (s1.trans s2) (s1.free hL) eL z led⟩
  · obtain ⟨oc, od, kV, doc, pm, an, cdv, ct, osl, rfl, lk, hcd⟩ := F.ex
    refine ⟨fun s us ws X l1 l2 => .of_eq ?_, fun r1 r2 => r1.append r2⟩
    match us, l1, ws, l2 with
    | [_, _], _, [_], _ => rfl
end
end K8

set_option Elab.async false
set_option linter.all false
namespace K8
/-! ### sums of multiples -/
/-- the sum of the first i residues' shifted multiples -/
def cvt (a : Poly) (f : Fn) (m : Nat) : Nat → Fn
  | 0 => fun _ => 0
  | i + 1 => fun n => cvt a f m i n + cf a i * sh (i * m) f n
def lin (n : Nat) : List Poly → List Row → Fn
  | b :: bs, r :: rs => fun m => cvt b (co n r) n b.length m + lin n bs rs m
  | _, _ => fun _ => 0
theorem cvt_ix {n e : Nat} (b : Poly) (r : Row) (he : e < n) (t : Nat) : ∀ i, cvt b (co n r) n i (t * n + e) = cvt b (cf (r.getD e [])) 1 i t
  | 0 => rfl
  | i + 1 => by
    show cvt b (co n r) n i (t * n + e) + cf b i * sh (i * n) (co n r) (t * n + e) = cvt b (cf (r.getD e [])) 1 i t + cf b i * sh (i * 1) (cf (r.getD e [])) t
    rw [cvt_ix b r he t i, co_sh (by omega), ix_mod t he, ix_div t he, Nat.mul_one]
theorem lin_snoc {n : Nat} : ∀ {bs : List Poly} {rs : List Row} (b : Poly) (r : Row), bs.length = rs.length → ∀ m, lin n (bs ++ [b]) (rs ++ [r]) m = lin n bs rs m + cvt b (co n r) n b.length m
  | [], [], b, r, _, m => by
    show cvt b (co n r) n b.length m + 0 = 0 + cvt b (co n r) n b.length m
    omega
  | b' :: bs, r' :: rs, b, r, h, m => by
    show cvt b' (co n r') n b'.length m + lin n (bs ++ [b]) (rs ++ [r]) m = cvt b' (co n r') n b'.length m + lin n bs rs m + cvt b (co n r) n b.length m
    rw [lin_snoc b r (by simpa using h) m, Int.add_assoc]
  | [], _ :: _, _, _, h, _ => by simp at h
  | _ :: _, [], _, _, h, _ => by simp at h
section
variable {p : Int} {n : Nat} {rows : List Row} {f g : Fn}
theorem cvt_span {r : Fn} (b : Poly) (hr : Sl p n rows r) : ∀ i, Sl p n rows (cvt b r n i)
  | 0 => .zero fun _ => .refl _ _
  | i + 1 => Sl.addmul (cvt_span b hr i) hr (cf b i) i fun _ => .refl _ _
theorem lin_span : ∀ (bs : List Poly) (rs : List Row), (∀ r ∈ rs, Sl p n rows (co n r)) → Sl p n rows (lin n bs rs)
  | [], [], _ => .zero fun _ => .refl _ _
  | [], _ :: _, _ => .zero fun _ => .refl _ _
  | _ :: _, [], _ => .zero fun _ => .refl _ _
  | b :: bs, r :: rs, h => Sl.add (cvt_span b (h r List.mem_cons_self) b.length) (lin_span bs rs fun x hx => h x (List.mem_cons_of_mem _ hx)) fun _ => .refl _ _
end
/-! ### a list changed at a place -/
theorem mem_set_iff {α : Type} {l : List α} {k : Nat} (hk : k < l.length) (x y : α) : y ∈ l.set k x ↔ y ∈ x :: l.eraseIdx k := by
  rw [List.set_eq_take_append_cons_drop, if_pos hk, List.eraseIdx_eq_take_drop_succ]
  simp only [List.mem_append, List.mem_cons]
  constructor
  · rintro (h | h | h) <;> simp [h]
  · rintro (h | h | h) <;> simp [h]
theorem set_self {α : Type} {l : List α} {k : Nat} {x : α} (h : l[k]? = some x) : l.set k x = l := by
  refine List.ext_getElem? fun i => ?_
  rw [List.getElem?_set]
  by_cases e : k = i
  · subst e
    rw [if_pos rfl, if_pos (List.getElem?_eq_some_iff.mp h).1, h]
  · rw [if_neg e]
theorem mem_insert_iff {α : Type} (l : List α) (k : Nat) (x y : α) : y ∈ l.take k ++ [x] ++ l.drop k ↔ y ∈ x :: l := by
  have := List.take_append_drop k l
  rw [show (y ∈ x :: l) ↔ y ∈ x :: (l.take k ++ l.drop k) by rw [this]]
  simp only [List.mem_append, List.mem_cons, List.not_mem_nil, or_false]
  constructor
  · rintro ((h | h) | h) <;> simp [h]
  · rintro (h | h | h) <;> simp [h]
theorem mem_swap_iff {α : Type} {l : List α} {k j : Nat} {a b : α} (ha : l[k]? = some a) (hb : l[j]? = some b) (n : k ≠ j) (y : α) : y ∈ (l.set k b).set j a ↔ y ∈ l := by
  have hk := (List.getElem?_eq_some_iff.mp ha).1
  have hj := (List.getElem?_eq_some_iff.mp hb).1
  have at_ : ∀ i, ((l.set k b).set j a)[i]? = if i = j then some a else if i = k then some b else l[i]? := fun i => by
    rw [List.getElem?_set, List.getElem?_set, List.length_set]
    by_cases e : i = j
    · subst e
      rw [if_pos rfl, if_pos hj, if_pos rfl]
    · rw [if_neg (fun z => e z.symm), if_neg e]
      by_cases e2 : i = k
      · subst e2
        rw [if_pos rfl, if_pos hk, if_pos rfl]
      · rw [if_neg (fun z => e2 z.symm), if_neg e2]
  constructor
  · intro h
    obtain ⟨i, hi⟩ := List.mem_iff_getElem?.mp h
    rw [at_] at hi
    split at hi
    · cases hi
      exact List.mem_of_getElem? ha
    · split at hi
      · cases hi
        exact List.mem_of_getElem? hb
      · exact List.mem_of_getElem? hi
  · intro h
    obtain ⟨i, hi⟩ := List.mem_iff_getElem?.mp h
    by_cases e : i = k
    · subst e
      rw [ha] at hi
      cases hi
      exact List.mem_iff_getElem?.mpr ⟨j, by rw [at_, if_pos rfl]⟩
    · by_cases e2 : i = j
      · subst e2
        rw [hb] at hi
        cases hi
        exact List.mem_iff_getElem?.mpr ⟨k, by rw [at_, if_neg n, if_pos rfl]⟩
      · exact List.mem_iff_getElem?.mpr ⟨i, by rw [at_, if_neg e2, if_neg e, hi]⟩
/-! ### the stirring steps -/
section
variable {p : Int} {n : Nat} {l rows : List Row} {r r' : Row} {k j : Nat}
theorem stir_insert (h : Eqv p n l rows) (z : Sl p n l (co n r)) : Eqv p n (l.take k ++ [r] ++ l.drop k) rows :=
  (Eqv.of_mem fun y => mem_insert_iff l k r y).trans ((Eqv.inSpan z).trans h)
theorem stir_swap {a b : Row} (h : Eqv p n l rows) (ha : l[k]? = some a) (hb : l[j]? = some b) (n' : k ≠ j) : Eqv p n ((l.set k b).set j a) rows :=
  (Eqv.of_mem fun y => mem_swap_iff ha hb n' y).trans h
theorem stir_set (h : Eqv p n l rows) (hr : l[k]? = some r) (e : Eqv p n (r' :: l.eraseIdx k) (r :: l.eraseIdx k)) : Eqv p n (l.set k r') rows := by
  have hk := (List.getElem?_eq_some_iff.mp hr).1
  have e1 : Eqv p n (l.set k r') (r' :: l.eraseIdx k) := .of_mem fun y => mem_set_iff hk r' y
  have e2 : Eqv p n l (r :: l.eraseIdx k) := by
    have : Eqv p n (l.set k r) (r :: l.eraseIdx k) := .of_mem fun y => mem_set_iff hk r y
    rwa [set_self hr] at this
  exact e1.trans (e.trans (e2.symm.trans h))
theorem stir_scale {c : Int} (hp : p ∈ PRIMES) (h : Eqv p n l rows) (hr : l[k]? = some r) (c0 : 0 < c) (c1 : c < p) (e : ∀ m, Cg p (co n r' m) (co n r m * c)) : Eqv p n (l.set k r') rows := by
  refine stir_set h hr ⟨fun x hx => ?_, fun x hx => ?_⟩
  · rcases List.mem_cons.mp hx with rfl | hx
    · exact Sp.smul (Sl.mem List.mem_cons_self) c 0 fun m => (e m).trans (.of_eq (by rw [Nat.zero_mul, sh_zero, Int.mul_comm]))
    · exact .mem (List.mem_cons_of_mem _ hx)
  · rcases List.mem_cons.mp hx with rfl | hx
    · refine Sp.smul (Sl.mem List.mem_cons_self) (und c p) 0 fun m => ?_
      rw [Nat.zero_mul, sh_zero]
      obtain ⟨d, hd⟩ := und_ok hp c0 c1
      obtain ⟨f, hf⟩ := e m
      rw [hf]
      generalize und c p = u at hd
      refine ⟨-(co n x m * d) - u * f, ?_⟩
      grind
    · exact .mem (List.mem_cons_of_mem _ hx)
theorem mem_erase_ne {α : Type} {l : List α} {k j : Nat} {b : α} (hb : l[j]? = some b) (n : k ≠ j) : b ∈ l.eraseIdx k := by
  rw [List.mem_eraseIdx_iff_getElem?]
  exact ⟨j, n.symm, hb⟩
theorem stir_add {d : Fn} {b : Row} (h : Eqv p n l rows) (hr : l[k]? = some r) (hb : l[j]? = some b) (n' : k ≠ j) (hd : Sl p n [b] d) (e : ∀ m, Cg p (co n r' m) (co n r m + d m)) : Eqv p n (l.set k r') rows :=
  stir_set h hr (Eqv.repl (hd.le (.of_mem fun x hx => by
    rw [List.mem_singleton] at hx
    subst hx
    exact mem_erase_ne hb n')) e)
end
end K8

set_option Elab.async false
set_option linter.all false
set_option maxRecDepth 100000
set_option maxHeartbeats 4000000
namespace K8
open PySem PySem.Spec PyProof.Rows L2
abbrev sBag : Stmt := topS 37
abbrev sPull : Stmt := topS 38
abbrev sOf : Stmt := topS 39
abbrev sPrimes : Stmt := topS 40
abbrev sLPrime : Stmt := topS 41
abbrev sLCut : Stmt := topS 42
abbrev sLSum : Stmt := topS 43
abbrev sSpread : Stmt := topS 44
/-- all but b stands -/
def SameB (b : Addr) (H H' : Hp) : Prop := ∀ a o, a ≠ b → H a = some o → H' a = some o
theorem SameB.refl (b : Addr) (H : Hp) : SameB b H H := fun _ _ _ h => h
theorem SameB.trans {b : Addr} {H H1 H2 : Hp} (x : SameB b H H1) (y : SameB b H1 H2) : SameB b H H2 := fun a o n h => y a o n (x a o n h)
theorem SameB.of {b : Addr} {H H' : Hp} (h : Same H H') : SameB b H H' := fun a o _ e => h a o e
/-- the bag of numbers at b, the script's copy at l -/
def BagAt (H : Hp) (b l : Addr) : Prop := ∃ (ns : List Int) (i big s c : Int), H b = some (.lst [.ref l, .int i, .int big, .int s, .int c]) ∧ H l = some (.lst (ns.map V.int)) ∧ ns.length ≤ 63 ∧ 0 ≤ i ∧ 0 ≤ big ∧ 0 ≤ s ∧ s < 2147483563
theorem BagAt.nelb {l b : Addr} {ns : List Int} {H : Hp} {xs : List V} {x : Addr} (h : H b = some (.lst (.ref x :: xs))) (h' : H l = some (.lst (ns.map V.int))) : l ≠ b := by
  intro e
  subst e
  rw [h] at h'
  have := HO.lst.inj (Option.some.inj h')
  cases ns with
  | nil => cases this
  | cons a r =>
    rw [List.map_cons] at this
    cases this
theorem BagAt.same {H H' : Hp} {b l : Addr} (h : BagAt H b l) (s : Same H H') : BagAt H' b l := by
  obtain ⟨ns, i, big, st, c, h1, h2, r⟩ := h
  exact ⟨ns, i, big, st, c, s _ _ h1, s _ _ h2, r⟩
theorem BagAt.list {H : Hp} {b l : Addr} (h : BagAt H b l) : ∃ xs, H b = some (.lst xs) := by
  obtain ⟨ns, i, big, st, c, h1, _⟩ := h
  exact ⟨_, h1⟩
/-- what is new is neither the bag nor the script's copy -/
theorem BagAt.fresh {H : Hp} {b l p : Addr} (h : BagAt H b l) (n : H p = none) : b ≠ p ∧ l ≠ p := by
  obtain ⟨ns, i, big, st, c, h1, h2, _⟩ := h
  exact ⟨ne_of_none h1 n, ne_of_none h2 n⟩
theorem SameB.free {b l : Addr} {H H' : Hp} (s : SameB b H H') (g : BagAt H' b l) {a : Addr} (h : H' a = none) : H a = none := by
  by_cases q : a = b
  · subst q
    obtain ⟨xs, e⟩ := g.list
    rw [h] at e
    cases e
  · cases e : H a with
    | none => rfl
    | some o =>
      rw [s a o q e] at h
      cases h
theorem SameB.keeps {b l : Addr} {H H' : Hp} (s : SameB b H H') (g : BagAt H b l) : Keeps H H' := fun a xs h => s a _ (by
  obtain ⟨ys, e⟩ := g.list
  exact ne_of h e (by intro z; cases z)) h
theorem SameB.new {b p : Addr} {H H' : Hp} {o : HO} (h : H p = none) (s : SameB b H H') : SameB b H (upd H' p o) := fun a u n e => by
  rw [upd_ne (ne_of_none e h)]
  exact s a u n e
/-- what is neither is written -/
theorem BagAt.write {b l p : Addr} {H : Hp} {o : HO} (g : BagAt H b l) (n : b ≠ p ∧ l ≠ p) : BagAt (upd H p o) b l := by
  obtain ⟨ns, i, big, st, c, h1, h2, r⟩ := g
  exact ⟨ns, i, big, st, c, by rw [upd_ne n.1]; exact h1, by rw [upd_ne n.2]; exact h2, r⟩
theorem BagAt.new {b l p : Addr} {H : Hp} {o : HO} (g : BagAt H b l) (h : H p = none) : BagAt (upd H p o) b l := g.write (g.fresh h)
section
variable {P : Program} {w : World} {K : PySem.W.Frag} {mg : Str → Option Value} {base : Heap}
theorem scPull : FnScope ["_law_bag_here", "_law_many", "_law_cell", "_law_digit", "_law_s", "_law_t"] ["_law_bag_here", "_law_many"] (defScope sPull) := ⟨rfl, rfl, rfl, by decide +kernel, rfl, by decide +kernel, by decide +kernel⟩
def spPull : L2.Sp := fun vs H Q _ => ∃ (b l : Addr) (m : Int), vs = [.ref b, .int m] ∧ BagAt H b l ∧ 0 < m ∧ m < 1000000 ∧ ∀ H' r, SameB b H H' → BagAt H' b l → 0 ≤ r → r < m → Q (.int r) H'
theorem small_lit {i : Int} (h : -(2 ^ 64) < i) (h' : i < 2 ^ 64) (j : Int) : CMul j i := .inr ⟨h, h'⟩
theorem ok_pull (D : IsDef K mg "_law_pull" sPull ["_law_bag_here", "_law_many"]) (T : Blt mg) : Ok P w K mg base 1 "_law_pull" ["_law_bag_here", "_law_many"] spPull := by
  refine D.ok scPull (fun vs H Q E h => ?_) (fun f cdv A outer s H vs Q E hr h => ?_)
  · obtain ⟨b, l, m, rfl, _⟩ := h
    rfl
  · obtain ⟨b, l, m, rfl, ⟨ns, i, big, st, c, hb, hl, hns, hi, hbig, hs0, hs1⟩, hm0, hm1, q⟩ := h
    have nlb := BagAt.nelb hb hl
    refine ⟨_, pss_cons (ps_asg (pe_op op_add (pe_ix ix_list (pv 0) pe_int (fun _ _ => rfl)) pe_int) (pg_sub (pv 0) pe_int set_list))
      (pss_cons (ps_if (PW.pt (pw_and (pt_cmpR op_eq (pe_ix ix_list (pv 0) pe_int (fun _ _ => rfl)) pe_int (nomark _)) (pw_and1 (pt_cmpR op_lt (pe_ix ix_list (pv 0) pe_int (fun _ _ => rfl)) (pe_callB call_len_seq (by rfl) T.len PySem.boot_len (pa_cons (pe_ix ix_list (pv 0) pe_int (fun _ _ => rfl)) pa_nil)) (nomark _)))))
        (pss_cons (ps_set (i := 2) scPull.nd rfl (.inl rfl) (pe_ix ix_list (pe_ix ix_list (pv 0) pe_int (fun _ _ => rfl)) (pe_ix ix_list (pv 0) pe_int (fun _ _ => rfl)) (fun _ _ => rfl)))
        (pss_cons (ps_asg (pe_op op_add (pe_ix ix_list (pv 0) pe_int (fun _ _ => rfl)) pe_int) (pg_sub (pv 0) pe_int set_list))
        (pss_one (ps_if (pt_cmpR op_ge (pv 2) (pe_op op_pow pe_int pe_int) (nomark _))
          (pss_one (ps_asg (pv 2) (pg_sub (pv 0) pe_int set_list)))
          (pss_one (ps_asg (pe_op op_mod (pe_op op_add (pe_op op_add (pe_op op_mul (pe_ix ix_list (pv 0) pe_int (fun _ _ => rfl)) pe_int) (pe_op op_mul (pe_op op_mod (pv 2) pe_int) pe_int)) pe_int) pe_int) (pg_sub (pv 0) pe_int set_list))))))) pss_nil)
      (pss_cons (ps_if (pt_cmpR op_gt (pe_ix ix_list (pv 0) pe_int (fun _ _ => rfl)) pe_int (nomark _))
        (pss_cons (ps_set (i := 3) scPull.nd rfl (.inl rfl) (pe_op op_mod (pe_ix ix_list (pv 0) pe_int (fun _ _ => rfl)) (pv 1)))
        (pss_cons (ps_asg (pe_op op_fdiv (pe_ix ix_list (pv 0) pe_int (fun _ _ => rfl)) (pv 1)) (pg_sub (pv 0) pe_int set_list))
        (pss_one (ps_ret (pv 3))))) pss_nil)
      (pss_cons (ps_set (i := 4) scPull.nd rfl (.inl rfl) (pe_ix ix_list (pv 0) pe_int (fun _ _ => rfl)))
      (pss_cons (ps_set (i := 5) scPull.nd rfl (.inl rfl) (pe_op op_add (pe_op op_mul (pe_op op_mod (pe_op op_mul (pv 4) (pv 4)) pe_int) pe_int) (pe_op op_mul (pv 4) pe_int)))
      (pss_cons (ps_asg (pe_op op_mod (pe_op op_add (pe_op op_add (pv 5) pe_int) (pe_ix ix_list (pv 0) pe_int (fun _ _ => rfl))) pe_int) (pg_sub (pv 0) pe_int set_list))
      (pss_cons (ps_set (i := 4) scPull.nd rfl (.inl rfl) (pe_ix ix_list (pv 0) pe_int (fun _ _ => rfl)))
      (pss_one (ps_ret (pe_op op_mod (pe_op op_add (pe_op op_add (pe_op op_fdiv (pv 4) pe_int) (pe_op op_mul (pe_op op_mod (pv 4) pe_int) pe_int)) (pe_op op_mul (pe_op op_mul (pv 4) (pe_ix ix_list (pv 0) pe_int (fun _ _ => rfl))) pe_int)) (pv 1)))))))))), ?_⟩
    -- bag[4] = bag[4] + 1
    refine ⟨_, rfl, b, _, 4, .int c, rfl, rfl, SqL.of hb, rfl, _, _, rfl, rfl, _, rfl, b, _, 4, 4, rfl, rfl, hb, rfl, ?_⟩
    -- the rest, from any state of the bag
    have tail : ∀ (H1 : Hp) (v2 : Option V) (i' big' s' : Int), SameB b H H1 → H1 b = some (.lst [.ref l, .int i', .int big', .int s', .int (c + 1)]) → H1 l = some (.lst (ns.map V.int)) → 0 ≤ i' → 0 ≤ big' → 0 ≤ s' → s' < 2147483563 →
        tSeq (tIfS (tTest (tOp (rI0 fun i j => V.bl (decide (j < i))) (tOp (rIxL K) (tVar 0) (tC (.int 2))) (tC (.int 0))))
          (tSeq (tAsg (tOp (rI (fun _ j => 0 < j) fun i j => V.int (i % j)) (tOp (rIxL K) (tVar 0) (tC (.int 2))) (tVar 1)) (gName 3)) (tSeq (tAsg (tOp (rI CDiv fun i j => V.int (i / j)) (tOp (rIxL K) (tVar 0) (tC (.int 2))) (tVar 1)) (gSub (tVar 0) (tC (.int 2)) rSetL)) (tRet (tVar 3)))) tNext)
        (tSeq (tAsg (tOp (rIxL K) (tVar 0) (tC (.int 3))) (gName 4))
        (tSeq (tAsg (tOp (rI0 fun i j => V.int (i + j)) (tOp (rI CMul fun i j => V.int (i * j)) (tOp (rI (fun _ j => 0 < j) fun i j => V.int (i % j)) (tOp (rI CMul fun i j => V.int (i * j)) (tVar 4) (tVar 4)) (tC (.int 2147483629))) (tC (.int 16807))) (tOp (rI CMul fun i j => V.int (i * j)) (tVar 4) (tC (.int 48271)))) (gName 5))
        (tSeq (tAsg (tOp (rI (fun _ j => 0 < j) fun i j => V.int (i % j)) (tOp (rI0 fun i j => V.int (i + j)) (tOp (rI0 fun i j => V.int (i + j)) (tVar 5) (tC (.int 40692))) (tOp (rIxL K) (tVar 0) (tC (.int 4)))) (tC (.int 2147483563))) (gSub (tVar 0) (tC (.int 3)) rSetL))
        (tSeq (tAsg (tOp (rIxL K) (tVar 0) (tC (.int 3))) (gName 4))
        (tRet (tOp (rI (fun _ j => 0 < j) fun i j => V.int (i % j)) (tOp (rI0 fun i j => V.int (i + j)) (tOp (rI0 fun i j => V.int (i + j)) (tOp (rI CDiv fun i j => V.int (i / j)) (tVar 4) (tC (.int 89))) (tOp (rI CMul fun i j => V.int (i * j)) (tOp (rI (fun _ j => 0 < j) fun i j => V.int (i % j)) (tVar 4) (tC (.int 7919))) (tC (.int 31)))) (tOp (rI CMul fun i j => V.int (i * j)) (tOp (rI CMul fun i j => V.int (i * j)) (tVar 4) (tOp (rIxL K) (tVar 0) (tC (.int 4)))) (tC (.int 2147483629)))) (tVar 1)))))))
        { nx := fun _ H' => Q .non H', rt := Q } [some (.ref b), some (.int m), v2, none, none, none] H1 := by
      intro H1 v2 i' big' s' sm eb el hi' hbig' hs0' hs1'
      refine ⟨_, rfl, b, _, 2, .int big', rfl, rfl, SqL.of eb, rfl, _, _, rfl, rfl, _, rfl, ?_⟩
      by_cases hb0 : (0 : Int) < big'
      · rw [decide_eq_true hb0]
        refine ⟨_, rfl, b, _, 2, .int big', rfl, rfl, SqL.of eb, rfl, _, rfl, _, _, rfl, rfl, hm0, ?_⟩
        refine ⟨_, rfl, b, _, 2, .int big', rfl, rfl, SqL.of eb, rfl, _, rfl, _, _, rfl, rfl, ⟨hm0, by omega⟩, _, rfl, b, _, 2, 2, rfl, rfl, eb, rfl, ?_⟩
        refine ⟨_, rfl, q _ _ (fun a o n e => by rw [upd_ne n]; exact sm a o n e) ⟨ns, i', big' / m, s', c + 1, upd_same, by rw [upd_ne nlb]; exact el, hns, hi', Int.ediv_nonneg hbig' (by omega), hs0', hs1'⟩ (Int.emod_nonneg _ (by omega)) (Int.emod_lt_of_pos _ hm0)⟩
      · rw [decide_eq_false hb0]
        refine ⟨_, rfl, b, _, 3, .int s', rfl, rfl, SqL.of eb, rfl, ?_⟩
        refine ⟨_, rfl, _, rfl, _, _, rfl, rfl, .inl ⟨by omega, by omega⟩, _, _, rfl, rfl, (by show (0 : Int) < 2147483629; decide), _, _, rfl, rfl, .inr ⟨by decide, by decide⟩, _, rfl, _, _, rfl, rfl, .inr ⟨by decide, by decide⟩, _, _, rfl, rfl, ?_⟩
        refine ⟨_, rfl, _, _, rfl, rfl, _, rfl, b, _, 4, .int (c + 1), rfl, rfl, SqL.of eb, rfl, _, _, rfl, rfl, _, _, rfl, rfl, (by show (0 : Int) < 2147483563; decide), _, rfl, b, _, 3, 3, rfl, rfl, eb, rfl, ?_⟩
        have z0 := Int.emod_nonneg (s' * s' % 2147483629 * 16807 + s' * 48271 + 40692 + (c + 1)) (show (2147483563 : Int) ≠ 0 by decide)
        have z1 := Int.emod_lt_of_pos (s' * s' % 2147483629 * 16807 + s' * 48271 + 40692 + (c + 1)) (show (0 : Int) < 2147483563 by decide)
        show tSeq _ _ _ _ (upd H1 b (.lst [.ref l, .int i', .int big', .int ((s' * s' % 2147483629 * 16807 + s' * 48271 + 40692 + (c + 1)) % 2147483563), .int (c + 1)]))
        generalize (s' * s' % 2147483629 * 16807 + s' * 48271 + 40692 + (c + 1)) % 2147483563 = u at z0 z1
        refine ⟨_, rfl, b, _, 3, .int u, rfl, rfl, SqL.of upd_same, rfl, ?_⟩
        refine ⟨_, rfl, _, _, rfl, rfl, ⟨by decide, by decide⟩, _, rfl, _, _, rfl, rfl, (by show (0 : Int) < 7919; decide), _, _, rfl, rfl, .inr ⟨by decide, by decide⟩, _, _, rfl, rfl, _, rfl, _, rfl, b, _, 4, .int (c + 1), rfl, rfl, SqL.of upd_same, rfl, _, _, rfl, rfl, .inl ⟨by omega, by omega⟩, _, _, rfl, rfl, .inr ⟨by decide, by decide⟩, _, _, rfl, rfl, _, rfl, _, _, rfl, rfl, hm0, ?_⟩
        exact q _ _ (fun a o n e => by rw [upd_ne n]; exact sm a o n e) ⟨ns, i', big', u, c + 1, upd_same, by rw [upd_ne nlb]; exact el, hns, hi', hbig', z0, z1⟩ (Int.emod_nonneg _ (by omega)) (Int.emod_lt_of_pos _ hm0)
    have eb1 : (upd H b (.lst [.ref l, .int i, .int big, .int st, .int (c + 1)])) b = some (.lst [.ref l, .int i, .int big, .int st, .int (c + 1)]) := upd_same
    have el1 : (upd H b (.lst [.ref l, .int i, .int big, .int st, .int (c + 1)])) l = some (.lst (ns.map V.int)) := by rw [upd_ne nlb]; exact hl
    have sm1 : SameB b H (upd H b (.lst [.ref l, .int i, .int big, .int st, .int (c + 1)])) := fun a o n e => by rw [upd_ne n]; exact e
    show tSeq _ _ _ _ (upd H b (.lst [.ref l, .int i, .int big, .int st, .int (c + 1)]))
    generalize upd H b (.lst [.ref l, .int i, .int big, .int st, .int (c + 1)]) = H1 at eb1 el1 sm1
    refine ⟨_, rfl, b, _, 2, .int big, rfl, rfl, SqL.of eb1, rfl, rfl, _, rfl, ?_⟩
    by_cases e0 : big = 0
    · rw [decide_eq_true (by rw [e0])]
      refine ⟨_, rfl, b, _, 1, .int i, rfl, rfl, SqL.of eb1, rfl, _, rfl, b, _, 0, .ref l, rfl, rfl, SqL.of eb1, rfl, l, _, rfl, .inl (SqL.of el1), _, _, rfl, rfl, _, rfl, ?_⟩
      rw [List.length_map]
      by_cases h1 : i < (ns.length : Int)
      · rw [decide_eq_true h1]
        have hin : i.toNat < ns.length := by omega
        have ei : i = ((i.toNat : Nat) : Int) := by omega
        refine ⟨_, rfl, b, _, 0, .ref l, rfl, rfl, SqL.of eb1, rfl, _, rfl, b, _, 1, .int i, rfl, rfl, SqL.of eb1, rfl, l, _, i, .int ns[i.toNat], rfl, rfl, SqL.of el1, ?_, ?_⟩
        · have e9 : atI (ns.map V.int) ((i.toNat : Nat) : Int) = some (.int ns[i.toNat]) := atI_nat (ints_at (List.getElem?_eq_getElem hin))
          rwa [← ei] at e9
        generalize ns[i.toNat] = cell
        refine ⟨_, rfl, b, _, 1, .int i, rfl, rfl, SqL.of eb1, rfl, _, _, rfl, rfl, _, rfl, b, _, 1, 1, rfl, rfl, eb1, rfl, ?_⟩
        have eb2 : (upd H1 b (.lst [.ref l, .int (i + 1), .int big, .int st, .int (c + 1)])) b = some (.lst [.ref l, .int (i + 1), .int big, .int st, .int (c + 1)]) := upd_same
        have el2 : (upd H1 b (.lst [.ref l, .int (i + 1), .int big, .int st, .int (c + 1)])) l = some (.lst (ns.map V.int)) := by rw [upd_ne nlb]; exact el1
        have sm2 : SameB b H (upd H1 b (.lst [.ref l, .int (i + 1), .int big, .int st, .int (c + 1)])) := fun a o n e => by rw [upd_ne n]; exact sm1 a o n e
        refine ⟨_, rfl, _, _, rfl, rfl, ⟨by decide, by decide, by decide⟩, _, _, rfl, rfl, _, rfl, ?_⟩
        by_cases hc : (10 : Int) ^ (18 : Int).toNat ≤ cell
        · rw [decide_eq_true hc]
          have c0 : 0 ≤ cell := Int.le_trans (by decide) hc
          refine ⟨_, rfl, _, rfl, b, _, 2, 2, rfl, rfl, eb2, rfl, ?_⟩
          exact tail _ _ (i + 1) cell st (fun a o n e => by rw [upd_ne n]; exact sm2 a o n e) upd_same (by rw [upd_ne nlb]; exact el2) (by omega) c0 hs0 hs1
        · rw [decide_eq_false hc]
          refine ⟨_, rfl, b, _, 3, .int st, rfl, rfl, SqL.of eb2, rfl, _, _, rfl, rfl, .inr ⟨by decide, by decide⟩, _, rfl, _, _, rfl, rfl, (by show (0 : Int) < 2147483629; decide), _, _, rfl, rfl, .inr ⟨by decide, by decide⟩, _, _, rfl, rfl, _, _, rfl, rfl, _, _, rfl, rfl, (by show (0 : Int) < 2147483563; decide), _, rfl, b, _, 3, 3, rfl, rfl, eb2, rfl, ?_⟩
          exact tail _ _ (i + 1) big ((st * 69069 + cell % 2147483629 * 40503 + 11) % 2147483563) (fun a o n e => by rw [upd_ne n]; exact sm2 a o n e) upd_same (by rw [upd_ne nlb]; exact el2) (by omega) hbig (Int.emod_nonneg _ (by decide)) (Int.emod_lt_of_pos _ (by decide))
      · rw [decide_eq_false h1]
        exact tail H1 _ i big st sm1 eb1 el1 hi hbig hs0 hs1
    · rw [decide_eq_false (fun z => e0 (V.int.inj z))]
      exact tail H1 _ i big st sm1 eb1 el1 hi hbig hs0 hs1
end
end K8

set_option Elab.async false
set_option linter.all false
set_option maxRecDepth 100000
set_option maxHeartbeats 4000000
namespace K8
open PySem PySem.Spec PyProof.Rows L2
section
variable {P : Program} {w : World} {K : PySem.W.Frag} {mg : Str → Option Value} {base : Heap}
theorem scOf : FnScope ["_law_bag_here", "_law_some"] ["_law_bag_here", "_law_some"] (defScope sOf) := ⟨rfl, rfl, rfl, by decide +kernel, rfl, by decide +kernel, by decide +kernel⟩
def spOf : L2.Sp := fun vs H Q _ => ∃ (b l a : Addr) (ns : List Int), vs = [.ref b, .ref a] ∧ BagAt H b l ∧ H a = some (.lst (ns.map V.int)) ∧ a ≠ b ∧ 0 < ns.length ∧ ns.length ≤ 1000 ∧ ∀ H' x, SameB b H H' → BagAt H' b l → x ∈ ns → Q (.int x) H'
theorem ok_of (D : IsDef K mg "_law_of" sOf ["_law_bag_here", "_law_some"]) (T : Blt mg) (C : Ok P w K mg base 1 "_law_pull" ["_law_bag_here", "_law_many"] spPull) : Ok P w K mg base 2 "_law_of" ["_law_bag_here", "_law_some"] spOf := by
  refine D.ok scOf (fun vs H Q E h => ?_) (fun f cdv A outer s H vs Q E hr h => ?_)
  · obtain ⟨b, l, a, ns, rfl, _⟩ := h
    rfl
  · obtain ⟨b, l, a, ns, rfl, hb, ha, nab, h0, h1, q⟩ := h
    refine ⟨_, pss_one (ps_ret (pe_ix ix_list (pv 1) (pe_c C hr (by rfl) (pa_cons (pv 0) (pa_cons (pe_callB call_len_seq (by rfl) T.len PySem.boot_len (pa_cons (pv 1) pa_nil)) pa_nil))) (fun _ _ => rfl))), ?_⟩
    refine ⟨_, rfl, _, rfl, _, rfl, a, _, rfl, .inl (SqL.of ha), ?_⟩
    rw [List.length_map]
    refine ⟨b, l, _, rfl, hb, by omega, by omega, fun H' r s1 g1 r0 r1 => ?_⟩
    have hin : r.toNat < ns.length := by omega
    refine ⟨a, _, r, .int ns[r.toNat], rfl, rfl, SqL.of (s1 _ _ nab ha), ?_, q _ _ s1 g1 (List.getElem_mem hin)⟩
    have e9 : atI (ns.map V.int) ((r.toNat : Nat) : Int) = some (.int ns[r.toNat]) := atI_nat (ints_at (List.getElem?_eq_getElem hin))
    rwa [show ((r.toNat : Nat) : Int) = r by omega] at e9
theorem scPrimes : FnScope [] [] (defScope sPrimes) := ⟨rfl, rfl, rfl, by decide +kernel, rfl, by decide +kernel, by decide +kernel⟩
def spPrimes : L2.Sp := fun vs H Q _ => vs = [] ∧ ∀ p, H p = none → Q (.ref p) (upd H p (.lst (PRIMES.map V.int)))
theorem ok_primes (D : IsDef K mg "_law_primes" sPrimes []) : Ok P w K mg base 1 "_law_primes" [] spPrimes := by
  refine D.ok scPrimes (fun vs H Q E h => ?_) (fun f cdv A outer s H vs Q E hr h => ?_)
  · obtain ⟨rfl, _⟩ := h
    rfl
  · obtain ⟨rfl, q⟩ := h
    refine ⟨_, pss_one (ps_ret (pe_lst (pa_cons pe_int (pa_cons pe_int (pa_cons pe_int (pa_cons pe_int (pa_cons pe_int (pa_cons pe_int (pa_cons pe_int (pa_cons pe_int (pa_cons pe_int (pa_cons pe_int (pa_cons pe_int (pa_cons pe_int (pa_cons pe_int (pa_cons pe_int (pa_cons pe_int (pa_cons pe_int (pa_cons pe_int (pa_cons pe_int (pa_cons pe_int (pa_cons pe_int (pa_cons pe_int (pa_cons pe_int (pa_cons pe_int (pa_cons pe_int (pa_cons pe_int pa_nil))))))))))))))))))))))))))), ?_⟩
    exact ⟨(by show 25 ≤ sizeLine; decide), fun p hp => q p hp⟩
theorem scLPrime : FnScope ["_law_bag_here"] ["_law_bag_here"] (defScope sLPrime) := ⟨rfl, rfl, rfl, by decide +kernel, rfl, by decide +kernel, by decide +kernel⟩
def spLPrime : L2.Sp := fun vs H Q _ => ∃ (b l : Addr), vs = [.ref b] ∧ BagAt H b l ∧ ∀ H' p, SameB b H H' → BagAt H' b l → p ∈ PRIMES → Q (.int p) H'
theorem ok_lprime (D : IsDef K mg "_law_prime" sLPrime ["_law_bag_here"]) (C : Ok P w K mg base 2 "_law_of" ["_law_bag_here", "_law_some"] spOf) (CP : Ok P w K mg base 1 "_law_primes" [] spPrimes) : Ok P w K mg base 3 "_law_prime" ["_law_bag_here"] spLPrime := by
  refine D.ok scLPrime (fun vs H Q E h => ?_) (fun f cdv A outer s H vs Q E hr h => ?_)
  · obtain ⟨b, l, rfl, _⟩ := h
    rfl
  · obtain ⟨b, l, rfl, hb, q⟩ := h
    have hr1 : Room 1 _ := hr.mono (by decide)
    refine ⟨_, pss_one (ps_ret (pe_c C hr (by rfl) (pa_cons (pv 0) (pa_cons (pe_lst (pa_cons pe_int (pa_cons pe_int (pa_cons pe_int (pa_cons pe_int (pa_cons pe_int (pa_cons pe_int (pa_cons pe_int (pa_cons (pe_c C hr (by rfl) (pa_cons (pv 0) (pa_cons (pe_c0 CP hr1 (by rfl)) pa_nil))) pa_nil))))))))) pa_nil)))), ?_⟩
    refine ⟨_, rfl, _, rfl, rfl, fun p1 hp1 => ?_⟩
    have n1 := hb.fresh hp1
    refine ⟨b, l, p1, PRIMES, rfl, hb.new hp1, upd_same, n1.1.symm, by decide, by decide, fun H1 x s1 g1 hx => ?_⟩
    have s2 : SameB b H H1 := (SameB.of (same_new hp1)).trans s1
    refine ⟨(by show 8 ≤ sizeLine; decide), fun p2 hp2 => ?_⟩
    have n2 := g1.fresh hp2
    refine ⟨b, l, p2, [2, 2, 3, 3, 5, 7, 97, x], rfl, g1.new hp2, upd_same, n2.1.symm, (by show 0 < 8; decide), (by show 8 ≤ 1000; decide), fun H2 y s3 g2 hy => q _ _ (s2.trans ((SameB.of (same_new hp2)).trans s3)) g2 ?_⟩
    simp only [List.mem_cons, List.not_mem_nil, or_false] at hy
    rcases hy with rfl | rfl | rfl | rfl | rfl | rfl | rfl | rfl
    all_goals first | exact hx | decide
theorem scBag : FnScope ["_law_script", "_law_salt", "_law_cell"] ["_law_script"] (defScope sBag) := ⟨rfl, rfl, rfl, by decide +kernel, rfl, by decide +kernel, by decide +kernel⟩
def spBag (K : PySem.W.Frag) : L2.Sp := fun vs H Q _ => ∃ (a : Addr) (ns : List Int), vs = [.ref a] ∧ SqL K H a (ns.map V.int) ∧ ns.length ≤ 63 ∧ ∀ H' b l, Same H H' → H b = none → BagAt H' b l → Q (.ref b) H'
theorem cut63 {ns : List Int} (h : ns.length ≤ 63) : cutV (ns.map V.int) none (some 63) = ns.map V.int := by
  unfold cutV
  rw [show HT.sIx (ns.map V.int).length (ns.map V.int).length (some (63 : Int)) = min 63 (ns.map V.int).length from HT.sIx_nat _ _ 63, HT.sIx_none, List.length_map]
  show List.take (min 63 ns.length - 0) (ns.map V.int) = _
  rw [Nat.min_eq_right h]
  exact List.take_of_length_le (by rw [List.length_map]; omega)
theorem ok_bag (D : IsDef K mg "_law_bag" sBag ["_law_script"]) (T : Blt mg) : Ok P w K mg base 1 "_law_bag" ["_law_script"] (spBag K) := by
  refine D.ok scBag (fun vs H Q E h => ?_) (fun f cdv A outer s H vs Q E hr h => ?_)
  · obtain ⟨a, ns, rfl, _⟩ := h
    rfl
  · obtain ⟨a, ns, rfl, ha, hn, q⟩ := h
    refine ⟨_, pss_cons (ps_set (i := 1) scBag.nd rfl (.inl rfl) (pe_op op_add pe_int (pe_callB call_len_seq (by rfl) T.len PySem.boot_len (pa_cons (pe_slice sl_list (pv 0) po_none (po_some pe_int)) pa_nil))))
      (pss_cons (ps_for PassesOwn.never rfl (pi_list (pe_slice sl_list (pv 0) po_none (po_some pe_int))) (pg_name (i := 2) scBag.nd rfl (.inl rfl))
        (pss_one (ps_set (i := 1) scBag.nd rfl (.inl rfl) (pe_op op_mod (pe_op op_add (pe_op op_mul (pv 1) pe_int) (pv 2)) pe_int))))
      (pss_one (ps_ret (pe_lst (pa_cons (pe_callTy call_list_of (by rfl) T.list (by decide +kernel) (pa_cons (pe_slice sl_list (pv 0) po_none (po_some pe_int)) pa_nil)) (pa_cons pe_int (pa_cons pe_int (pa_cons (pv 1) (pa_cons pe_int pa_nil))))))))), ?_⟩
    refine ⟨_, rfl, 63, rfl, a, _, rfl, ha, fun p1 hp1 => ⟨p1, _, rfl, .inl (SqL.of upd_same), ?_⟩⟩
    rw [cut63 hn, List.length_map] at *
    have s1 := same_new (o := .lst (ns.map V.int)) hp1
    refine ⟨_, _, rfl, rfl, ?_⟩
    refine ⟨_, rfl, 63, rfl, a, _, rfl, s1.seq ha, fun p2 hp2 => ⟨p2, rfl, ⟨_, SqL.of upd_same⟩, ?_⟩⟩
    rw [cut63 hn] at *
    have s2 := s1.trans (same_new (o := .lst (ns.map V.int)) hp2)
    refine for_list (K := K) (a := p2) (xs := ns.map V.int) (fun i σ H' => Same (upd (upd H p1 (.lst (ns.map V.int))) p2 (.lst (ns.map V.int))) H' ∧ ∃ z v2, σ = [some (.ref a), some (.int z), v2] ∧ 0 ≤ z ∧ z < 2147483563)
      ⟨.refl _, _, none, rfl, by omega, by omega⟩ (fun i σ H' _ h => SqL.of (h.1 _ _ upd_same)) ?_ ?_
    · rintro i x σ H' hx ⟨sm, z, v2, rfl, z0, z1⟩
      obtain ⟨y, rfl, _⟩ := ints_get hx
      refine ⟨_, rfl, _, _, rfl, rfl, .inr ⟨by decide, by decide⟩, _, rfl, _, _, rfl, rfl, _, _, rfl, rfl, (by show (0 : Int) < 2147483563; decide), ?_⟩
      exact ⟨sm, _, _, rfl, Int.emod_nonneg _ (by decide), Int.emod_lt_of_pos _ (by decide)⟩
    · rintro σ H' ⟨sm, z, v2, rfl, z0, z1⟩
      have s3 := s2.trans sm
      refine ⟨_, rfl, 63, rfl, a, _, rfl, s3.seq ha, fun p3 hp3 => ⟨p3, _, rfl, .inl (SqL.of upd_same), fun l hl => ?_⟩⟩
      rw [cut63 hn] at *
      have s4 := s3.trans (same_new (o := .lst (ns.map V.int)) hp3)
      refine ⟨_, rfl, (by show 5 ≤ sizeLine; decide), fun b hb => ?_⟩
      have s5 := s4.trans (same_new (o := .lst (ns.map V.int)) hl)
      have nlb : l ≠ b := ne_of_none upd_same hb
      exact q _ b l (s5.trans (same_new hb)) (s5.free hb) ⟨ns, 0, 0, z, 0, upd_same, by rw [upd_ne nlb, upd_same], hn, by decide, by decide, z0, z1⟩
end
end K8

set_option Elab.async false
set_option linter.all false
set_option maxRecDepth 100000
set_option maxHeartbeats 4000000
namespace K8
open PySem PySem.Spec PyProof.Rows L2
/-! ### _law_cut: how many places begin a rest that is not nought -/
def live (ns : List Int) (k : Nat) : Bool := (ns.drop k).any fun x => decide (x ≠ 0)
theorem live_down {ns : List Int} {k : Nat} (h : live ns (k + 1) = true) : live ns k = true := by
  unfold live at h ⊢
  obtain ⟨x, hx, hz⟩ := List.any_eq_true.mp h
  refine List.any_eq_true.mpr ⟨x, ?_, hz⟩
  rw [show k + 1 = 1 + k by omega, Nat.add_comm, ← List.drop_drop] at hx
  exact List.mem_of_mem_drop hx
theorem live_le {ns : List Int} {k j : Nat} (hk : k ≤ j) (h : live ns j = true) : live ns k = true := by
  induction j with
  | zero =>
    have : k = 0 := by omega
    rwa [this]
  | succ j ih =>
    by_cases e : k = j + 1
    · rwa [e]
    · exact ih (by omega) (live_down h)
/-- j of the first i places are live, these are the first j -/
structure Lives (ns : List Int) (i j : Nat) : Prop where
  le : j ≤ i
  yes : ∀ k, k < j → live ns k = true
  no : j < i → live ns j = false
theorem Lives.start (ns : List Int) : Lives ns 0 0 := ⟨Nat.le_refl _, fun k h => absurd h (Nat.not_lt_zero _), fun h => absurd h (Nat.lt_irrefl _)⟩
theorem Lives.yes_step {ns : List Int} {i j : Nat} (h : Lives ns i j) (y : live ns i = true) : Lives ns (i + 1) (j + 1) := by
  have e : j = i := by
    rcases Nat.lt_or_eq_of_le h.le with q | q
    · have := h.no q
      rw [live_le (Nat.le_of_lt q) y] at this
      cases this
    · exact q
  subst e
  refine ⟨Nat.le_refl _, fun k hk => ?_, fun q => absurd q (Nat.lt_irrefl _)⟩
  by_cases e : k = j
  · rwa [e]
  · exact h.yes k (by omega)
theorem Lives.no_step {ns : List Int} {i j : Nat} (h : Lives ns i j) (y : live ns i = false) : Lives ns (i + 1) j := by
  refine ⟨Nat.le_succ_of_le h.le, h.yes, fun q => ?_⟩
  by_cases e : j = i
  · rwa [e]
  · exact h.no (by have := h.le; omega)
theorem Lives.trim {ns : List Int} {j : Nat} (h : Lives ns ns.length j) : Trim ns (ns.take j) := by
  have dead : ∀ i, j ≤ i → cf ns i = 0 := fun i hi => by
    by_cases q : j < ns.length
    · have := h.no q
      by_cases hin : i < ns.length
      · rw [cf_in hin]
        refine Classical.byContradiction fun z => ?_
        have : live ns j = true := List.any_eq_true.mpr ⟨ns[i], ?_, decide_eq_true z⟩
        · rw [h.no q] at this
          cases this
        · exact List.mem_iff_getElem?.mpr ⟨i - j, by rw [List.getElem?_drop, show j + (i - j) = i by omega, List.getElem?_eq_getElem hin]⟩
      · exact cf_out (by omega)
    · exact cf_out (by omega)
  refine .of h.le dead ?_
  rcases Nat.eq_zero_or_pos j with e | e
  · exact .inl e
  · refine .inr fun z => ?_
    obtain ⟨x, hx, hz⟩ := List.any_eq_true.mp (h.yes (j - 1) (by omega))
    obtain ⟨i, hi⟩ := List.mem_iff_getElem?.mp hx
    rw [List.getElem?_drop] at hi
    have e1 := cf_some hi
    by_cases q : i = 0
    · subst q
      rw [Nat.add_zero, z] at e1
      exact (of_decide_eq_true hz) e1.symm
    · rw [dead _ (by omega)] at e1
      exact (of_decide_eq_true hz) e1.symm
section
variable {P : Program} {w : World} {K : PySem.W.Frag} {mg : Str → Option Value} {base : Heap}
theorem scLCut : FnScope ["_law_numbers", "_law_many", "_law_k", "_law_one"] ["_law_numbers"] (defScope sLCut) := ⟨rfl, rfl, rfl, by decide +kernel, rfl, by decide +kernel, by decide +kernel⟩
theorem cut_from {xs : List V} {k : Nat} (h : k ≤ xs.length) : cutV xs (some (k : Int)) none = xs.drop k := by
  unfold cutV
  rw [sIx_some _ _ _ h, HT.sIx_none]
  exact List.take_of_length_le (by rw [List.length_drop]; omega)
theorem any_map {ns : List Int} : ((ns.map fun x => !decide (x = 0)).any id) = ns.any fun x => decide (x ≠ 0) := by
  rw [List.any_map]
  congr 1
  funext x
  show (!decide (x = 0)) = decide (x ≠ 0)
  by_cases e : x = 0 <;> simp [e]
def spLCut : L2.Sp := fun vs H Q _ => ∃ (a : Addr) (ns : List Int), vs = [.ref a] ∧ H a = some (.lst (ns.map V.int)) ∧ ns.length ≤ 1000 ∧ ∀ H' v l, Same H H' → PolyAt H' v l → Trim ns l → Q v H'
theorem ok_lcut (D : IsDef K mg "_law_cut" sLCut ["_law_numbers"]) (T : Blt mg) : Ok P w K mg base 1 "_law_cut" ["_law_numbers"] spLCut := by
  refine D.ok scLCut (fun vs H Q E h => ?_) (fun f cdv A outer s H vs Q E hr h => ?_)
  · obtain ⟨a, ns, rfl, _⟩ := h
    rfl
  · obtain ⟨a, ns, rfl, ha, hn, q⟩ := h
    refine ⟨_, pss_cons (ps_set (i := 1) scLCut.nd rfl (.inl rfl) (pe_callB call_len_seq (by rfl) T.len PySem.boot_len (pa_cons
        (pe_lc (own := [("_law_k", 2)]) (g := gName 2) (tt := tB (tCB (rAny K) (tCons (tLc (iList K (tSl (rSlL K) (tVar 0) (tPart (tVar 2)) tNoPart)) (gName 3) tYes (tOp rNe (tVar 3) (tC (.int 0))) [3]) tNil))) (by rfl) scLCut.nd (pi_range1 rfl T.range (pa_cons (pe_callB call_len_seq (by rfl) T.len PySem.boot_len (pa_cons (pv 0) pa_nil)) pa_nil)) (blkOk_by (own := [("_law_k", 2)]) (N := ["_law_numbers", "_law_many", "_law_k", "_law_one"]) (sc := defScope sLCut) (by decide +kernel))
          (fun _ _ _ _ _ => pg_name (i := 2) scLCut.nd rfl (Or.inl rfl))
          (fun _ _ _ _ _ => pts_one (pt_val (pe_callB (cr_any rfl) (by rfl) T.any (by decide +kernel) (pa_cons
            (pe_lc (own := [("_law_one", 3)]) (g := gName 3) (tt := tYes) (by rfl) scLCut.nd (pi_list (pe_slice sl_list (pv 0) (po_some (pv 2)) po_none)) (blkOk_by (own := [("_law_one", 3)]) (N := ["_law_numbers", "_law_many", "_law_k", "_law_one"]) (by rfl))
              (fun _ _ _ _ _ => pg_name (i := 3) scLCut.nd rfl (Or.inl rfl)) (fun _ _ _ _ _ => pts_nil) (fun _ _ _ _ _ => pe_cmpR op_ne (pv 3) pe_int (nomark _))) pa_nil))))
          (fun _ _ _ _ _ => pv 2)) pa_nil)))
      (pss_one (ps_ret (pe_callTy call_tuple_of (by rfl) T.tuple (by decide +kernel) (pa_cons (pe_slice sl_list (pv 0) po_none (po_some (pv 1))) pa_nil)))), ?_⟩
    refine ⟨_, rfl, a, _, rfl, .inl (SqL.of ha), ?_⟩
    refine ⟨_, rfl, by rw [List.length_map]; omega, by rw [List.length_map]; omega, fun L hL => ?_⟩
    rw [List.length_map]
    refine lc_range (lo := 0) (n := ((ns.length : Nat) : Int).toNat) (fun i H' => Same H H' ∧ ∃ vs j, H' L = some (.lst vs) ∧ vs.length = j ∧ Lives ns i j) ⟨same_new hL, [], 0, upd_same, rfl, Lives.start ns⟩ ?_ ?_
    · rintro i H' hi ⟨sm, vs, j, eL, rfl, lv⟩
      have hin : i < ns.length := by omega
      refine ⟨rfl, ?_⟩
      refine ⟨_, rfl, _, rfl, _, rfl, a, _, rfl, SqL.of (sm _ _ ha), fun p1 hp1 => ⟨p1, rfl, ⟨_, SqL.of upd_same⟩, fun L2 hL2 => ?_⟩⟩
      rw [show (0 : Int) + ((i : Nat) : Int) = ((i : Nat) : Int) by omega, cut_from (by rw [List.length_map]; omega), ← List.map_drop] at *
      have t1 := same_new (o := .lst ((ns.drop i).map V.int)) hp1
      refine lc_list (xs := (ns.drop i).map V.int) (fun k H2 => Same (upd H' p1 (.lst ((ns.drop i).map V.int))) H2 ∧ H2 L2 = some (.lst ((((ns.drop i).take k).map fun x => !decide (x = 0)).map V.bl)))
        ⟨same_new hL2, upd_same⟩ (fun k H2 _ h => SqL.of (h.1 _ _ upd_same)) ?_ ?_
      · rintro k x H2 hx ⟨t2, eL2⟩
        obtain ⟨z, rfl, hz⟩ := ints_get hx
        refine ⟨rfl, ?_⟩
        refine ⟨_, rfl, rfl, _, eL2, ?_, same_upd2 hL2 t2, ?_⟩
        · rw [List.length_map, List.length_map, List.length_take, List.length_drop]
          exact small1000 (by omega)
        · rw [upd_same, List.take_add_one, hz, List.map_append, List.map_append]
          have : decide (V.int z = V.int 0) = decide (z = 0) := by
            by_cases e : z = 0
            · simp [e]
            · rw [decide_eq_false e, decide_eq_false fun q => e (V.int.inj q)]
          rw [this]
          rfl
      · rintro H2 ⟨t2, eL2⟩
        rw [List.length_map, List.take_length] at eL2
        refine ⟨L2, _, rfl, SqL.of eL2, _, rfl, ?_⟩
        rw [any_map]
        have t3 := t1.trans t2
        by_cases e : live ns i = true
        · rw [show ((ns.drop i).any fun x => decide (x ≠ 0)) = true from e]
          refine ⟨_, rfl, vs, t3 _ _ eL, ?_, same_upd2 hL (sm.trans t3), _, _, upd_same, by rw [List.length_append]; rfl, lv.yes_step e⟩
          have := lv.le
          exact small1000 (by omega)
        · have e' : live ns i = false := by simpa using e
          rw [show ((ns.drop i).any fun x => decide (x ≠ 0)) = false from e']
          exact ⟨sm.trans t3, vs, _, t3 _ _ eL, rfl, lv.no_step e'⟩
    · rintro H' ⟨sm, vs, j, eL, rfl, lv⟩
      have lv' : Lives ns ns.length vs.length := by
        have : ((ns.length : Nat) : Int).toNat = ns.length := by omega
        rwa [this] at lv
      refine ⟨L, vs, rfl, .inl (SqL.of eL), ?_⟩
      refine ⟨_, rfl, _, rfl, _, rfl, a, _, rfl, SqL.of (sm _ _ ha), fun p1 hp1 => ⟨p1, _, rfl, .inl ⟨SqL.of upd_same, fun t ht => ?_⟩⟩⟩
      rw [cut_to (by rw [List.length_map]; exact lv'.le), ← List.map_take] at *
      exact q _ _ _ (sm.trans ((same_new hp1).trans (same_new ht))) ⟨t, rfl, upd_same⟩ lv'.trim
end
end K8

set_option Elab.async false
set_option linter.all false
set_option maxRecDepth 100000
set_option maxHeartbeats 4000000
namespace K8
open PySem PySem.Spec PyProof.Rows L2
theorem sl1 {K : PySem.W.Frag} {H : Hp} {a : Addr} {l : Poly} {Q : VK} (ha : H a = some (.tup (l.map V.int))) (q : ∀ H' v, Same H H' → PolyAt H' v (l.take 1) → Q v H') : rSlA K (.ref a) none (some 1) H Q := by
  have e : HT.sIx (l.map V.int).length (l.map V.int).length (some (1 : Int)) = min 1 l.length := by
    rw [show HT.sIx (l.map V.int).length (l.map V.int).length (some (1 : Int)) = min 1 (l.map V.int).length from HT.sIx_nat _ _ 1, List.length_map]
  refine ⟨a, _, rfl, SqT.of ha, fun h => q H _ (.refl H) ⟨a, rfl, ?_⟩, fun h p hp => q _ _ (same_new hp) ⟨p, rfl, ?_⟩⟩
  · rw [e, List.length_map] at h
    rw [List.take_of_length_le (by omega)]
    exact ha
  · rw [upd_same]
    unfold cutV
    rw [e, HT.sIx_none, Nat.sub_zero, List.drop_zero, List.map_take]
    congr 2
    rcases Nat.eq_zero_or_pos l.length with z | z
    · have : l = [] := List.length_eq_zero_iff.mp z
      subst this
      rfl
    · rw [Nat.min_eq_left z]
theorem canon_take1 {p : Int} {l : Poly} (h : Canon p l) (n : l.take 1 ≠ [0]) : Canon p (l.take 1) := by
  refine ⟨fun x hx => h.1 x (List.mem_of_mem_take hx), fun x hx => ?_⟩
  match l, n, hx with
  | [], _, hx => simp at hx
  | y :: r, n, hx =>
    have : y = x := by simpa using hx
    subst this
    exact fun z => n (by rw [z]; rfl)
section
variable {P : Program} {w : World} {K : PySem.W.Frag} {mg : Str → Option Value} {base : Heap}
theorem scLSum : FnScope ["_law_bag_here", "_law_p", "_law_most", "_law_many", "_law_k"] ["_law_bag_here", "_law_p", "_law_most"] (defScope sLSum) := ⟨rfl, rfl, rfl, by decide +kernel, rfl, by decide +kernel, by decide +kernel⟩
def spLSum : L2.Sp := fun vs H Q _ => ∃ (b l : Addr) (p : Int) (most : Nat), vs = [.ref b, .int p, .int (most : Nat)] ∧ BagAt H b l ∧ p ∈ PRIMES ∧ 0 < most ∧ most ≤ 100 ∧ ∀ H' v z, SameB b H H' → BagAt H' b l → PolyAt H' v z → Canon p z → z.length ≤ most → Q v H'
theorem ok_lsum (D : IsDef K mg "_law_sum" sLSum ["_law_bag_here", "_law_p", "_law_most"]) (T : Blt mg) (CO : Ok P w K mg base 2 "_law_of" ["_law_bag_here", "_law_some"] spOf) (CP : Ok P w K mg base 1 "_law_pull" ["_law_bag_here", "_law_many"] spPull)
    (CC : Ok P w K mg base 1 "_law_cut" ["_law_numbers"] spLCut) : Ok P w K mg base 3 "_law_sum" ["_law_bag_here", "_law_p", "_law_most"] spLSum := by
  refine D.ok scLSum (fun vs H Q E h => ?_) (fun f cdv A outer s H vs Q E hr h => ?_)
  · obtain ⟨b, l, p, most, rfl, _⟩ := h
    rfl
  · obtain ⟨b, l, p, most, rfl, hb, hp, m0, m1, q⟩ := h
    have p2 := prime_pos hp
    have hr1 : Room 1 _ := hr.mono (by decide)
    refine ⟨_, pss_cons (ps_set (i := 3) scLSum.nd rfl (.inl rfl) (pe_c CO hr (by rfl) (pa_cons (pv 0) (pa_cons (pe_lst (pa_cons pe_int (pa_cons pe_int (pa_cons pe_int (pa_cons pe_int (pa_cons pe_int (pa_cons pe_int (pa_cons (pe_op op_add pe_int (pe_c CP hr1 (by rfl) (pa_cons (pv 0) (pa_cons (pv 2) pa_nil)))) pa_nil)))))))) pa_nil))))
      (pss_one (ps_ret (pe_c CC hr1 (by rfl) (pa_cons (pe_lc (own := [("_law_k", 4)]) (g := gName 4) (tt := tYes) (by rfl) scLSum.nd (pi_range1 rfl T.range (pa_cons (pe_callB (call_min2 rfl) (by rfl) T.min (by decide +kernel) (pa_cons (pv 3) (pa_cons (pv 2) pa_nil))) pa_nil))
          (blkOk_by (own := [("_law_k", 4)]) (N := ["_law_bag_here", "_law_p", "_law_most", "_law_many", "_law_k"]) (sc := defScope sLSum) (by decide +kernel)) (fun _ _ _ _ _ => pg_name (i := 4) scLSum.nd rfl (Or.inl rfl)) (fun _ _ _ _ _ => pts_nil)
          (fun _ _ _ _ _ => pe_c CP hr1 (by rfl) (pa_cons (pv 0) (pa_cons (pv 1) pa_nil)))) pa_nil)))), ?_⟩
    refine ⟨_, rfl, _, rfl, _, rfl, b, l, _, rfl, hb, by omega, by omega, fun H1 r s1 g1 r0 r1 => ?_⟩
    refine ⟨_, _, rfl, rfl, (by show 7 ≤ sizeLine; decide), fun p1 hp1 => ?_⟩
    have n1 := g1.fresh hp1
    refine ⟨b, l, p1, [0, 1, 1, 2, 2, 3, 1 + r], rfl, g1.new hp1, upd_same, n1.1.symm, (by show 0 < 7; decide), (by show 7 ≤ 1000; decide), fun H2 x s2 g2 hx => ?_⟩
    have s3 : SameB b H H2 := s1.trans ((SameB.of (same_new hp1)).trans s2)
    have hx2 : 0 ≤ x ∧ x ≤ 1000 := by
      simp only [List.mem_cons, List.not_mem_nil, or_false] at hx
      omega
    refine ⟨_, rfl, _, rfl, _, _, rfl, _, rfl, by split <;> omega, by split <;> omega, fun L hL => ?_⟩
    have hm : (if ((most : Nat) : Int) < x then ((most : Nat) : Int) else x).toNat ≤ most := by split <;> omega
    generalize (if ((most : Nat) : Int) < x then ((most : Nat) : Int) else x) = cnt at hm
    have nL := g2.fresh hL
    refine lc_range (lo := 0) (n := cnt.toNat) (fun i H' => SameB b H2 H' ∧ BagAt H' b l ∧ ∃ rs : List Int, H' L = some (.lst (rs.map V.int)) ∧ rs.length = i ∧ ∀ x ∈ rs, 0 ≤ x ∧ x < p)
      ⟨SameB.of (same_new hL), g2.new hL, [], upd_same, rfl, fun x h => (nomatch h)⟩ ?_ ?_
    · rintro i H' hi ⟨sm, g, rs, eL, hl, hrs⟩
      refine ⟨rfl, ?_⟩
      refine ⟨_, rfl, _, rfl, b, l, p, rfl, g, by omega, by omega, fun H3 r s4 g4 r0 r1 => ⟨_, s4 _ _ nL.1.symm eL, ?_, SameB.new hL (sm.trans s4), g4.write nL, rs ++ [r], by rw [upd_same, ints_snoc], by rw [List.length_append, hl]; rfl, fun x hx => ?_⟩⟩
      · rw [List.length_map]
        exact small1000 (by omega)
      · rcases List.mem_append.mp hx with hx | hx
        · exact hrs x hx
        · rw [List.mem_singleton] at hx
          subst hx
          exact ⟨r0, r1⟩
    · rintro H' ⟨sm, g, rs, eL, hl, hrs⟩
      refine ⟨L, rs, rfl, eL, by omega, fun H3 v z s4 hv t => ?_⟩
      have := t.len
      exact q _ _ z (s3.trans (sm.trans (SameB.of s4))) (g.same s4) hv (t.canon hrs) (by omega)
theorem scSpread : FnScope ["_law_bag_here", "_law_p", "_law_width", "_law_most", "_law_kind", "_law_found", "_law_end", "_law_one"] ["_law_bag_here", "_law_p", "_law_width", "_law_most"] (defScope sSpread) := ⟨rfl, rfl, rfl, by decide +kernel, rfl, by decide +kernel, by decide +kernel⟩
def spSpread : L2.Sp := fun vs H Q _ => ∃ (b l : Addr) (p : Int) (n most : Nat), vs = [.ref b, .int p, .int (n : Nat), .int (most : Nat)] ∧ BagAt H b l ∧ p ∈ PRIMES ∧ n ≤ 100 ∧ 0 < most ∧ most ≤ 100 ∧ ∀ H' v row, SameB b H H' → BagAt H' b l → RowAt H' v row → RowOk p n row → Short most row → Q v H'
theorem ok_spread (D : IsDef K mg "_law_spread" sSpread ["_law_bag_here", "_law_p", "_law_width", "_law_most"]) (T : Blt mg) (CP : Ok P w K mg base 1 "_law_pull" ["_law_bag_here", "_law_many"] spPull)
    (CS : Ok P w K mg base 3 "_law_sum" ["_law_bag_here", "_law_p", "_law_most"] spLSum) : Ok P w K mg base 4 "_law_spread" ["_law_bag_here", "_law_p", "_law_width", "_law_most"] spSpread := by
  refine D.ok scSpread (fun vs H Q E h => ?_) (fun f cdv A outer s H vs Q E hr h => ?_)
  · obtain ⟨b, l, p, n, most, rfl, _⟩ := h
    rfl
  · obtain ⟨b, l, p, n, most, rfl, hb, hp, hn, m0, m1, q⟩ := h
    have hr1 : Room 1 _ := hr.mono (by decide)
    refine ⟨_, pss_cons (ps_set (i := 4) scSpread.nd rfl (.inl rfl) (pe_c CP hr1 (by rfl) (pa_cons (pv 0) (pa_cons pe_int pa_nil))))
      (pss_cons (ps_set (i := 5) scSpread.nd rfl (.inl rfl) (pe_lst pa_nil))
      (pss_cons (ps_for PassesOwn.never rfl (pi_range1 rfl T.range (pa_cons (pv 2) pa_nil)) (pg_name (i := 6) scSpread.nd rfl (.inl rfl))
        (pss_cons (ps_set (i := 7) scSpread.nd rfl (.inl rfl) (pe_ifExp (PW.pt (pw_or (pt_cmpR op_eq (pv 4) pe_int (nomark _)) (pw_or1 (pt_cmpR op_gt (pe_c CP hr1 (by rfl) (pa_cons (pv 0) (pa_cons pe_int pa_nil))) pe_int (nomark _)))))
          (pe_c CS hr (by rfl) (pa_cons (pv 0) (pa_cons (pv 1) (pa_cons (pv 3) pa_nil)))) (pe_tup pa_nil)))
        (pss_one (ps_expr (pe_bm PySem.F.plainAttrs_list PySem.F.slot_list_append PySem.F.type_list_append mt_append (pv 5) (pa_cons
          (pe_ifExp (PW.pt (pw_and (pt_cmpR op_eq (pv 4) pe_int (nomark _)) (pw_and1 (pt_cmpR (op_neD hr.units) (pe_slice sl_tupA (pv 7) po_none (po_some pe_int)) (pe_tup (pa_cons pe_int pa_nil)) (nomark _)))))
            (pe_slice sl_tupA (pv 7) po_none (po_some pe_int)) (pv 7)) pa_nil))))))
      (pss_one (ps_ret (pe_callTy call_tuple_of (by rfl) T.tuple (by decide +kernel) (pa_cons (pv 5) pa_nil)))))), ?_⟩
    refine ⟨_, rfl, b, l, _, rfl, hb, by decide, by decide, fun H1 kind s1 g1 _ _ => ?_⟩
    refine ⟨Nat.zero_le _, fun L hL => ?_⟩
    have nL := g1.fresh hL
    refine ⟨_, rfl, _, rfl, by omega, by omega, ?_⟩
    refine for_range (lo := 0) (n := ((n : Nat) : Int).toNat) (fun i σ H' => SameB b H1 H' ∧ BagAt H' b l ∧ ∃ vs ls v6 v7, σ = [some (.ref b), some (.int p), some (.int (n : Nat)), some (.int (most : Nat)), some (.int kind), some (.ref L), v6, v7] ∧
        H' L = some (.lst vs) ∧ All2 (PolyAt H') vs ls ∧ ls.length = i ∧ ∀ z ∈ ls, Canon p z ∧ z.length ≤ most)
      ⟨SameB.of (same_new hL), g1.new hL, [], [], none, none, rfl, upd_same, trivial, rfl, fun z h => (nomatch h)⟩ ?_ ?_
    · rintro i σ H' hi ⟨sm, g, vs, ls, v6, v7, rfl, eL, hls, hlen, hcan⟩
      have vl := hls.len
      -- the rest of the turn, from any sum
      have rest : ∀ (H2 : Hp) (v : V) (z : Poly), SameB b H' H2 → BagAt H2 b l → PolyAt H2 v z → Canon p z → z.length ≤ most → ∀ (N : L2.St → Hp → Prop),
          (∀ σ' H3, (SameB b H1 H3 ∧ BagAt H3 b l ∧ ∃ vs ls v6 v7, σ' = [some (.ref b), some (.int p), some (.int (n : Nat)), some (.int (most : Nat)), some (.int kind), some (.ref L), v6, v7] ∧ H3 L = some (.lst vs) ∧ All2 (PolyAt H3) vs ls ∧ ls.length = i + 1 ∧ ∀ z ∈ ls, Canon p z ∧ z.length ≤ most) → N σ' H3) →
          ∀ v', PolyAt H2 v' z ∨ (∃ H0, Same H0 H2 ∧ PolyAt H2 v' (z.take 1) ∧ z.take 1 ≠ [0]) → N [some (.ref b), some (.int p), some (.int (n : Nat)), some (.int (most : Nat)), some (.int kind), some (.ref L), some (.int (0 + (i : Int))), some v] (upd H2 L (.lst (vs ++ [v']))) := by
        intro H2 v z s2 g2 hv hc hl N hN v' hv'
        have eL2 := s2 _ _ nL.1.symm eL
        have k2 : Keeps H' H2 := s2.keeps g
        have k3 : Keeps H2 (upd H2 L (.lst (vs ++ [v']))) := keeps_lst eL2
        obtain ⟨z', hz', cz', lz'⟩ : ∃ z', PolyAt H2 v' z' ∧ Canon p z' ∧ z'.length ≤ most := by
          rcases hv' with h | ⟨_, _, h, n0⟩
          · exact ⟨z, h, hc, hl⟩
          · exact ⟨_, h, canon_take1 hc n0, by rw [List.length_take]; omega⟩
        refine hN _ _ ⟨SameB.new hL (sm.trans s2), g2.write nL, vs ++ [v'], ls ++ [z'], _, _, rfl, upd_same, ?_, by rw [List.length_append, hlen]; rfl, fun y hy => ?_⟩
        · exact (hls.mono fun _ _ x => (PolyAt.keep x k2).keep k3).snoc (hz'.keep k3)
        · rcases List.mem_append.mp hy with hy | hy
          · exact hcan y hy
          · rw [List.mem_singleton] at hy
            subst hy
            exact ⟨cz', lz'⟩
      -- what is appended
      have app : ∀ (H2 : Hp) (v : V) (z : Poly), SameB b H' H2 → BagAt H2 b l → PolyAt H2 v z → Canon p z → z.length ≤ most → ∀ (D : Ends),
          (∀ σ' H3, (SameB b H1 H3 ∧ BagAt H3 b l ∧ ∃ vs ls v6 v7, σ' = [some (.ref b), some (.int p), some (.int (n : Nat)), some (.int (most : Nat)), some (.int kind), some (.ref L), v6, v7] ∧ H3 L = some (.lst vs) ∧ All2 (PolyAt H3) vs ls ∧ ls.length = i + 1 ∧ ∀ z ∈ ls, Canon p z ∧ z.length ≤ most) → D.nx σ' H3) →
          tDrop (tBM K "list" rAppend (tVar 5) (tCons (tIf (tAnd (tTest (tOp rEq (tVar 4) (tC (.int 1)))) (tTest (tOp (rNeD K) (tSl (rSlA K) (tVar 7) tNoPart (tPart (tC (.int 1)))) (tTup (tCons (tC (.int 0)) tNil))))) (tSl (rSlA K) (tVar 7) tNoPart (tPart (tC (.int 1)))) (tVar 7)) tNil)) D
            [some (.ref b), some (.int p), some (.int (n : Nat)), some (.int (most : Nat)), some (.int kind), some (.ref L), some (.int (0 + (i : Int))), some v] H2 := by
        intro H2 v z s2 g2 hv hc hl D hD
        have eL2 := s2 _ _ nL.1.symm eL
        have small : vs.length < sizeLine := small1000 (by omega)
        obtain ⟨az, rfl, haz⟩ := id hv
        refine ⟨_, rfl, .inl ⟨rfl, _, SqL.of eL2⟩, _, rfl, rfl, _, rfl, ?_⟩
        by_cases e1 : kind = 1
        · rw [decide_eq_true (by rw [e1])]
          refine ⟨_, rfl, 1, rfl, sl1 haz fun H3 v3 t3 hv3 => ?_⟩
          refine ⟨(by show 1 ≤ sizeLine; decide), fun pt hpt => ?_⟩
          have t4 := t3.trans (same_new (o := .tup [.int 0]) hpt)
          refine ⟨polyD (z.take 1), polyD [0], (hv3.keep (keeps_new hpt)).dp, (show PolyAt _ (.ref pt) [0] from ⟨pt, rfl, upd_same⟩).dp, polyD_sh _, polyD_sh _, _, rfl, ?_⟩
          rw [polyD_eqv]
          by_cases e2 : z.take 1 = [0]
          · rw [decide_eq_true e2]
            refine ⟨_, rfl, L, _, _, rfl, rfl, t4 _ _ eL2, small, ?_⟩
            exact rest _ _ z (s2.trans (SameB.of t4)) (g2.same t4) (hv.keep (.of t4)) hc hl D.nx hD _ (.inl (hv.keep (.of t4)))
          · rw [decide_eq_false e2]
            refine ⟨_, rfl, 1, rfl, sl1 (t4 _ _ haz) fun H5 v5 t5 hv5 => ?_⟩
            have t6 := t4.trans t5
            refine ⟨L, _, _, rfl, rfl, t6 _ _ eL2, small, ?_⟩
            exact rest _ _ z (s2.trans (SameB.of t6)) (g2.same t6) (hv.keep (.of t6)) hc hl D.nx hD _ (.inr ⟨_, t6, hv5, e2⟩)
        · rw [decide_eq_false (fun q => e1 (V.int.inj q))]
          refine ⟨_, rfl, L, _, _, rfl, rfl, eL2, small, ?_⟩
          exact rest _ _ z s2 g2 hv hc hl D.nx hD _ (.inl hv)
      refine ⟨_, rfl, rfl, _, rfl, ?_⟩
      have sum : tCall spLSum [] E0 (tCons (tVar 0) (tCons (tVar 1) (tCons (tVar 3) tNil))) [some (.ref b), some (.int p), some (.int (n : Nat)), some (.int (most : Nat)), some (.int kind), some (.ref L), some (.int (0 + (i : Int))), v7] H' fun v H2 => ∃ z, SameB b H' H2 ∧ BagAt H2 b l ∧ PolyAt H2 v z ∧ Canon p z ∧ z.length ≤ most :=
        ⟨_, rfl, _, rfl, _, rfl, b, l, p, most, rfl, g, hp, m0, m1, fun H2 v z s2 g2 hv hc hl => ⟨z, s2, g2, hv, hc, hl⟩⟩
      by_cases e0 : kind = 0
      · rw [decide_eq_true (by rw [e0])]
        refine ⟨_, rfl, _, rfl, _, rfl, b, l, p, most, rfl, g, hp, m0, m1, fun H2 v z s2 g2 hv hc hl => ?_⟩
        exact app H2 v z s2 g2 hv hc hl _ fun _ _ h => h
      · rw [decide_eq_false (fun q => e0 (V.int.inj q))]
        refine ⟨_, rfl, b, l, _, rfl, g, by decide, by decide, fun H2 r s2 g2 r0 r1 => ?_⟩
        refine ⟨_, _, rfl, rfl, _, rfl, ?_⟩
        by_cases h3 : (0 : Int) < r
        · rw [decide_eq_true h3]
          refine ⟨_, rfl, _, rfl, _, rfl, b, l, p, most, rfl, g2, hp, m0, m1, fun H3 v z s3 g3 hv hc hl => ?_⟩
          exact app H3 v z (s2.trans s3) g3 hv hc hl _ fun _ _ h => h
        · rw [decide_eq_false h3]
          refine ⟨Nat.zero_le _, fun pt hpt => ?_⟩
          exact app _ _ [] (s2.trans (SameB.of (same_new hpt))) (g2.new hpt) ⟨pt, rfl, upd_same⟩ (canon_nil p) (Nat.zero_le _) _ fun _ _ h => h
    · rintro σ H' ⟨sm, g, vs, ls, v6, v7, rfl, eL, hls, hlen, hcan⟩
      refine ⟨_, rfl, L, _, rfl, .inl ⟨SqL.of eL, fun t ht => ?_⟩⟩
      have st := same_new (o := .tup vs) ht
      exact q _ _ ls (s1.trans (sm.trans (SameB.of st))) (g.same st) ⟨t, vs, rfl, upd_same, hls.mono fun _ _ x => PolyAt.keep x (.of st)⟩ ⟨by omega, fun z hz => (hcan z hz).1⟩ fun z hz => (hcan z hz).2
end
end K8

set_option Elab.async false
set_option linter.all false
set_option maxRecDepth 100000
set_option maxHeartbeats 4000000
namespace K8
open PySem PySem.Spec PyProof.Rows L2
abbrev sPlus : Stmt := topS 45
abbrev sTimes : Stmt := topS 46
abbrev sMade : Stmt := topS 47
theorem rep_flatV (m : Nat) (v : V) : (List.replicate m [v]).flatten = List.replicate m v := by
  induction m with
  | zero => rfl
  | succ m ih => rw [List.replicate_succ, List.flatten_cons, ih]; rfl
/-- (one + (0,) * long)[k] -/
def tPad (K : PySem.W.Frag) (i : Nat) : TE := tOp (rIxT K) (tOp (rCatA K) (tVar i) (tOp (rRepTA K) (tTup (tCons (tC (.int 0)) tNil)) (tVar 3))) (tVar 5)
theorem pad {K : PySem.W.Frag} {i k long : Nat} {a : Addr} {l : Poly} {σ : L2.St} {H : Hp} {Q : VK} (h1 : σ[i]? = some (some (.ref a))) (h3 : σ[3]? = some (some (.int (long : Nat)))) (h5 : σ[5]? = some (some (.int (k : Nat)))) (ha : H a = some (.tup (l.map V.int)))
    (hl : l.length ≤ 1000) (hk : k < long) (hlong : long ≤ 1000) (q : ∀ H', Same H H' → Q (.int (cf l k)) H') : tPad K i σ H Q := by
  refine ⟨_, h1, (by show 1 ≤ sizeLine; decide), fun t ht => ⟨_, h3, t, _, [.int 0], rfl, rfl, SqT.of upd_same, by simp, by omega, by omega, (by show 1 ≤ 1000; decide), fun e => ?_, fun e p hp => ?_⟩⟩
  · have s1 := same_new (o := .tup [.int 0]) ht
    have e1 : long = 1 := by omega
    refine ⟨a, t, l.map V.int, [.int 0], rfl, rfl, SqT.of (s1 _ _ ha), SqT.of upd_same, ?_, fun z => ?_, fun _ z => (nomatch z), fun _ _ p hp => ?_⟩
    · rw [List.length_map]
      exact Nat.le_trans (show l.length + 1 ≤ 2000 by omega) (by decide)
    · have z0 : l = [] := by simpa using z
      refine ⟨_, h5, t, _, _, .int (cf l k), rfl, rfl, SqT.of upd_same, ?_, q _ s1⟩
      subst z0
      have : k = 0 := by omega
      subst this
      rfl
    · have s2 := s1.trans (same_new (o := .tup (l.map V.int ++ [.int 0])) hp)
      refine ⟨_, h5, p, _, _, .int (cf l k), rfl, rfl, SqT.of upd_same, ?_, q _ s2⟩
      have : l.map V.int ++ [V.int 0] = (l ++ [0]).map V.int := by simp
      rw [this]
      refine atI_nat (ints_at ?_)
      have hk2 : k < (l ++ [0]).length := by rw [List.length_append, List.length_singleton]; omega
      rw [List.getElem?_eq_getElem hk2, ← cf_in hk2, cf_append]
      split
      · rfl
      · rw [cf_out (l := l) (by omega)]
        have : k - l.length = 0 := by omega
        rw [this]
        rfl
  · have s1 := same_new (o := .tup [.int 0]) ht
    have s2 := s1.trans (same_new (o := .tup (List.replicate ((long : Nat) : Int).toNat [V.int 0]).flatten) hp)
    have e0 : ((long : Nat) : Int).toNat = long := by omega
    rw [e0, rep_flat] at *
    have rl : (List.replicate long (0 : Int)).map V.int ≠ [] := by
      cases long with
      | zero => omega
      | succ n => simp [List.replicate_succ]
    refine ⟨a, p, l.map V.int, (List.replicate long (0 : Int)).map V.int, rfl, rfl, SqT.of (s2 _ _ ha), SqT.of upd_same, ?_, fun z => ?_, fun _ z => absurd z rl, fun _ _ p2 hp2 => ?_⟩
    · rw [List.length_map, List.length_map, List.length_replicate]
      exact Nat.le_trans (show l.length + long ≤ 2000 by omega) (by decide)
    · have z0 : l = [] := by simpa using z
      refine ⟨_, h5, p, _, _, .int (cf l k), rfl, rfl, SqT.of upd_same, ?_, q _ s2⟩
      subst z0
      refine atI_nat (ints_at ?_)
      rw [List.getElem?_replicate, if_pos hk]
      rfl
    · have s3 := s2.trans (same_new (o := .tup (l.map V.int ++ (List.replicate long (0 : Int)).map V.int)) hp2)
      refine ⟨_, h5, p2, _, _, .int (cf l k), rfl, rfl, SqT.of upd_same, ?_, q _ s3⟩
      rw [← List.map_append]
      refine atI_nat (ints_at ?_)
      have hk2 : k < (l ++ List.replicate long 0).length := by rw [List.length_append, List.length_replicate]; omega
      rw [List.getElem?_eq_getElem hk2, ← cf_in hk2, cf_append]
      split
      · rfl
      · rw [cf_out (l := l) (by omega), cf_zeros]
theorem cf_mapr {n : Nat} {f : Nat → Int} (t : Nat) : cf ((List.range n).map f) t = if t < n then f t else 0 := by
  unfold cf
  rw [List.getD_eq_getElem?_getD, List.getElem?_map]
  by_cases h : t < n
  · rw [if_pos h, List.getElem?_range h]
    rfl
  · rw [if_neg h, List.getElem?_eq_none (by rw [List.length_range]; omega)]
    rfl
section
variable {P : Program} {w : World} {K : PySem.W.Frag} {mg : Str → Option Value} {base : Heap}
theorem scPlus : FnScope ["_law_one", "_law_other", "_law_p", "_law_long", "_law_numbers", "_law_k", "_law_number"] ["_law_one", "_law_other", "_law_p"] (defScope sPlus) := ⟨rfl, rfl, rfl, by decide +kernel, rfl, by decide +kernel, by decide +kernel⟩
def spPlus : L2.Sp := fun vs H Q _ => ∃ (v1 v2 : V) (p : Int) (one two : Poly), vs = [v1, v2, .int p] ∧ PolyAt H v1 one ∧ PolyAt H v2 two ∧ 0 < p ∧ one.length ≤ 1000 ∧ two.length ≤ 1000 ∧
  ∀ H' v z, Same H H' → PolyAt H' v z → Canon p z → z.length ≤ max one.length two.length → (∀ t, Cg p (cf z t) (cf one t + cf two t)) → Q v H'
theorem ok_plus (D : IsDef K mg "_law_plus" sPlus ["_law_one", "_law_other", "_law_p"]) (T : Blt mg) (CC : Ok P w K mg base 1 "_law_cut" ["_law_numbers"] spLCut) : Ok P w K mg base 2 "_law_plus" ["_law_one", "_law_other", "_law_p"] spPlus := by
  refine D.ok scPlus (fun vs H Q E h => ?_) (fun f cdv A outer s H vs Q E hr h => ?_)
  · obtain ⟨v1, v2, p, one, two, rfl, _⟩ := h
    rfl
  · obtain ⟨v1, v2, p, one, two, rfl, ⟨a1, rfl, h1⟩, ⟨a2, rfl, h2⟩, hp, l1, l2, q⟩ := h
    refine ⟨_, pss_cons (ps_set (i := 3) scPlus.nd rfl (Or.inr rfl) (pe_callB (call_max2 rfl) (by rfl) T.max (by decide +kernel) (pa_cons (pe_callB call_len_seq (by rfl) T.len PySem.boot_len (pa_cons (pv 0) pa_nil)) (pa_cons (pe_callB call_len_seq (by rfl) T.len PySem.boot_len (pa_cons (pv 1) pa_nil)) pa_nil))))
      (pss_cons (ps_setLc (i := 4) (own := [("_law_k", 5)]) (g := gName 5) (tt := tYes) (te := tOp (rI0 fun i j => V.int (i + j)) (tPad K 0) (tPad K 1)) (by rfl) scPlus.nd rfl rfl (sw_true rfl rfl rfl (by decide +kernel)) (pi_range1 rfl T.range (pa_cons (pv 3) pa_nil))
          (blkOk_by (own := [("_law_k", 5)]) (N := ["_law_one", "_law_other", "_law_p", "_law_long", "_law_numbers", "_law_k", "_law_number"]) (sc := defScope sPlus) (by decide +kernel)) (fun _ _ _ _ _ => pg_name (i := 5) scPlus.nd rfl (Or.inl rfl)) (fun _ _ _ _ _ => pts_nil)
          (fun _ _ _ _ _ => pe_op op_add (pe_ix ix_tup (pe_op op_catA (pv 0) (pe_op op_repTA (pe_tup (pa_cons pe_int pa_nil)) (pv 3))) (pv 5) (fun _ _ => rfl)) (pe_ix ix_tup (pe_op op_catA (pv 1) (pe_op op_repTA (pe_tup (pa_cons pe_int pa_nil)) (pv 3))) (pv 5) (fun _ _ => rfl))))
      (pss_one (ps_ret (pe_c CC hr (by rfl) (pa_cons (pe_lc (own := [("_law_number", 6)]) (g := gName 6) (tt := tYes) (by rfl) scPlus.nd (pi_list (pv 4)) (blkOk_by (own := [("_law_number", 6)]) (N := ["_law_one", "_law_other", "_law_p", "_law_long", "_law_numbers", "_law_k", "_law_number"]) (sc := defScope sPlus) (by decide +kernel))
          (fun _ _ _ _ _ => pg_name (i := 6) scPlus.nd rfl (Or.inl rfl)) (fun _ _ _ _ _ => pts_nil) (fun _ _ _ _ _ => pe_op op_mod (pv 6) (pv 2))) pa_nil))))), ?_⟩
    refine ⟨_, rfl, a1, _, rfl, .inr (SqT.of h1), _, rfl, a2, _, rfl, .inr (SqT.of h2), _, _, rfl, ?_⟩
    rw [List.length_map, List.length_map]
    have em : (if ((two.length : Nat) : Int) > ((one.length : Nat) : Int) then ((two.length : Nat) : Int) else ((one.length : Nat) : Int)) = ((max one.length two.length : Nat) : Int) := by split <;> omega
    rw [em]
    have lm : max one.length two.length ≤ 1000 := by omega
    have lo : one.length ≤ max one.length two.length := by omega
    have lt : two.length ≤ max one.length two.length := by omega
    generalize max one.length two.length = long at lm lo lt q
    refine ⟨_, rfl, _, rfl, by omega, by omega, fun L hL => ?_⟩
    refine lc_range (lo := 0) (n := ((long : Nat) : Int).toNat) (fun i H' => Same H H' ∧ H' L = some (.lst (((List.range i).map fun k => cf one k + cf two k).map V.int))) ⟨same_new hL, upd_same⟩ ?_ ?_
    · rintro i H' hi ⟨sm, eL⟩
      refine ⟨rfl, ?_⟩
      refine pad (k := i) (long := long) rfl rfl (show _ = some (some (V.int (i : Nat))) from congrArg (fun z => some (some (V.int z))) (Int.zero_add _)) (sm _ _ h1) (by omega) (by omega) lm fun H2 s2 => ?_
      refine pad (k := i) (long := long) rfl rfl (show _ = some (some (V.int (i : Nat))) from congrArg (fun z => some (some (V.int z))) (Int.zero_add _)) (s2 _ _ (sm _ _ h2)) (by omega) (by omega) lm fun H3 s3 => ?_
      have s4 := s2.trans s3
      refine ⟨_, _, rfl, rfl, _, s4 _ _ eL, ?_, same_upd2 hL (sm.trans s4), ?_⟩
      · rw [List.length_map, List.length_map, List.length_range]
        exact small1000 (by omega)
      · rw [upd_same, List.range_succ, List.map_append, List.map_append]
        rfl
    · rintro H' ⟨sm, eL⟩
      have e0 : ((long : Nat) : Int).toNat = long := by omega
      rw [e0] at eL
      refine ⟨_, rfl, L, rfl, ⟨_, SqL.of eL⟩, fun L2 hL2 => ?_⟩
      refine lc_list (xs := ((List.range long).map fun k => cf one k + cf two k).map V.int) (fun i H2 => Same H' H2 ∧ i ≤ long ∧ H2 L2 = some (.lst (((List.range i).map fun k => (cf one k + cf two k) % p).map V.int))) ⟨same_new hL2, Nat.zero_le _, upd_same⟩ (fun i H2 _ h => SqL.of (h.1 _ _ eL)) ?_ ?_
      · rintro i x H2 hx ⟨s2, hi, eL2⟩
        obtain ⟨z, rfl, hz⟩ := ints_get hx
        have hil : i < long := by
          have := (List.getElem?_eq_some_iff.mp hz).1
          rwa [List.length_map, List.length_range] at this
        have ez : z = cf one i + cf two i := by
          rw [List.getElem?_map, List.getElem?_range hil] at hz
          exact (Option.some.inj hz).symm
        refine ⟨rfl, ?_⟩
        refine ⟨_, rfl, _, rfl, _, _, rfl, rfl, hp, _, eL2, ?_, same_upd2 hL2 s2, hil, ?_⟩
        · rw [List.length_map, List.length_map, List.length_range]
          exact small1000 (by omega)
        · rw [upd_same, List.range_succ, List.map_append, List.map_append, ez]
          rfl
      · rintro H2 ⟨s2, hi, eL2⟩
        rw [List.length_map, List.length_map, List.length_range] at eL2
        refine ⟨L2, _, rfl, eL2, by rw [List.length_map, List.length_range]; exact lm, fun H3 v z s3 hv t => ?_⟩
        refine q H3 v z (sm.trans (s2.trans s3)) hv (t.canon fun x hx => ?_) (by have := t.len; rwa [List.length_map, List.length_range] at this) fun t' => ?_
        · obtain ⟨k, _, rfl⟩ := List.mem_map.mp hx
          exact ⟨Int.emod_nonneg _ (by omega), Int.emod_lt_of_pos _ hp⟩
        · rw [t.cfs, cf_mapr]
          split
          · exact Cg.emod _ _
          · rw [cf_out (l := one) (by omega), cf_out (l := two) (by omega)]
            exact .of_eq rfl
/-! ### _law_times -/
structure Conv (p : Int) (one two : Poly) (i j : Nat) (l : List Int) : Prop where
  len : l.length = one.length + two.length
  rng : ∀ x ∈ l, 0 ≤ x ∧ x < p
  cfs : ∀ t, Cg p (cf l t) (cvt one (cf two) 1 i t + cf one i * (if i ≤ t ∧ t - i < j then cf two (t - i) else 0))
theorem Conv.start {p : Int} {one two : Poly} (hp : 0 < p) : Conv p one two 0 0 (List.replicate (one.length + two.length) 0) := by
  refine ⟨List.length_replicate, fun x hx => ?_, fun t => ?_⟩
  · rw [List.eq_of_mem_replicate hx]
    omega
  · rw [cf_zeros, if_neg (by omega)]
    show Cg p 0 (0 + _ * 0)
    exact .of_eq (by omega)
theorem Conv.step {p : Int} {one two : Poly} {i j : Nat} {l : List Int} (hp : 0 < p) (C : Conv p one two i j l) (hi : i < one.length) (hj : j < two.length) : Conv p one two i (j + 1) (l.set (i + j) ((cf l (i + j) + cf one i * cf two j) % p)) := by
  have hlt : i + j < l.length := by rw [C.len]; omega
  refine ⟨by rw [List.length_set]; exact C.len, fun x hx => ?_, fun t => ?_⟩
  · rcases List.mem_or_eq_of_mem_set hx with hx | hx
    · exact C.rng x hx
    · rw [hx]
      exact ⟨Int.emod_nonneg _ (by omega), Int.emod_lt_of_pos _ hp⟩
  · rw [cf_set hlt]
    by_cases e : t = i + j
    · subst e
      rw [if_pos rfl, if_pos (by omega), show i + j - i = j by omega]
      refine (Cg.emod _ _).trans ?_
      have := C.cfs (i + j)
      rw [if_neg (by omega)] at this
      refine (this.add (Cg.refl p (cf one i * cf two j))).trans (.of_eq (by omega))
    · rw [if_neg e]
      refine (C.cfs t).trans (.of_eq ?_)
      by_cases c : i ≤ t ∧ t - i < j
      · rw [if_pos c, if_pos (by omega)]
      · rw [if_neg c, if_neg (by omega)]
theorem Conv.next {p : Int} {one two : Poly} {i : Nat} {l : List Int} (C : Conv p one two i two.length l) : Conv p one two (i + 1) 0 l := by
  refine ⟨C.len, C.rng, fun t => (C.cfs t).trans (.of_eq ?_)⟩
  rw [if_neg (show ¬ (i + 1 ≤ t ∧ t - (i + 1) < 0) by omega)]
  show _ = cvt one (cf two) 1 i t + cf one i * sh (i * 1) (cf two) t + _ * 0
  rw [Nat.mul_one, Int.mul_zero, Int.add_zero]
  unfold sh
  by_cases c : t < i
  · rw [if_pos c, if_neg (by omega)]
  · rw [if_neg c]
    by_cases c2 : t - i < two.length
    · rw [if_pos (by omega)]
    · rw [if_neg (by omega), cf_out (l := two) (by omega)]
theorem scTimes : FnScope ["_law_one", "_law_other", "_law_p", "_law_numbers", "_law_at", "_law_to"] ["_law_one", "_law_other", "_law_p"] (defScope sTimes) := ⟨rfl, rfl, rfl, by decide +kernel, rfl, by decide +kernel, by decide +kernel⟩
def spTimes : L2.Sp := fun vs H Q _ => ∃ (v1 v2 : V) (p : Int) (one two : Poly), vs = [v1, v2, .int p] ∧ PolyAt H v1 one ∧ PolyAt H v2 two ∧ p ∈ PRIMES ∧ Canon p one ∧ one.length ≤ 400 ∧ two.length ≤ 400 ∧
  ∀ H' v z, Same H H' → PolyAt H' v z → Canon p z → z.length ≤ one.length + two.length → (∀ t, Cg p (cf z t) (cvt one (cf two) 1 one.length t)) → Q v H'
theorem ok_times (D : IsDef K mg "_law_times" sTimes ["_law_one", "_law_other", "_law_p"]) (T : Blt mg) (CC : Ok P w K mg base 1 "_law_cut" ["_law_numbers"] spLCut) : Ok P w K mg base 2 "_law_times" ["_law_one", "_law_other", "_law_p"] spTimes := by
  refine D.ok scTimes (fun vs H Q E h => ?_) (fun f cdv A outer s H vs Q E hr h => ?_)
  · obtain ⟨v1, v2, p, one, two, rfl, _⟩ := h
    rfl
  · obtain ⟨v1, v2, p, one, two, rfl, ⟨a1, rfl, h1⟩, ⟨a2, rfl, h2⟩, hp, can, l1, l2, q⟩ := h
    have p2 := prime_pos hp
    have pp : 0 < p := by omega
    refine ⟨_, pss_cons (ps_set (i := 3) scTimes.nd rfl (.inl rfl) (pe_op op_rep (pe_lst (pa_cons pe_int pa_nil)) (pe_op op_add (pe_callB call_len_seq (by rfl) T.len PySem.boot_len (pa_cons (pv 0) pa_nil)) (pe_callB call_len_seq (by rfl) T.len PySem.boot_len (pa_cons (pv 1) pa_nil)))))
      (pss_cons (ps_for PassesOwn.never rfl (pi_range1 rfl T.range (pa_cons (pe_callB call_len_seq (by rfl) T.len PySem.boot_len (pa_cons (pv 0) pa_nil)) pa_nil)) (pg_name (i := 4) scTimes.nd rfl (.inl rfl))
        (pss_one (ps_for PassesOwn.never rfl (pi_range1 rfl T.range (pa_cons (pe_callB call_len_seq (by rfl) T.len PySem.boot_len (pa_cons (pv 1) pa_nil)) pa_nil)) (pg_name (i := 5) scTimes.nd rfl (.inl rfl))
          (pss_one (ps_asg (pe_op op_mod (pe_op op_add (pe_ix ix_list (pv 3) (pe_op op_add (pv 4) (pv 5)) (fun _ _ => rfl)) (pe_op op_mul (pe_ix ix_tup (pv 0) (pv 4) (fun _ _ => rfl)) (pe_ix ix_tup (pv 1) (pv 5) (fun _ _ => rfl)))) (pv 2)) (pg_sub (pv 3) (pe_op op_add (pv 4) (pv 5)) set_list))))))
      (pss_one (ps_ret (pe_c CC hr (by rfl) (pa_cons (pv 3) pa_nil))))), ?_⟩
    refine ⟨by decide, fun lz hlz => ?_⟩
    have s1 := same_new (o := .lst [.int 0]) hlz
    refine ⟨_, rfl, a1, _, rfl, .inr (SqT.of (s1 _ _ h1)), _, rfl, a2, _, rfl, .inr (SqT.of (s1 _ _ h2)), _, _, rfl, rfl, ?_⟩
    rw [List.length_map, List.length_map]
    have e0 : (((one.length : Nat) : Int) + ((two.length : Nat) : Int)).toNat = one.length + two.length := by omega
    refine ⟨lz, _, _, rfl, rfl, upd_same, by omega, by omega, ?_, fun L hL => ?_⟩
    · rw [e0]
      show 1 * _ ≤ _
      rw [Nat.one_mul]
      exact Nat.le_trans (show one.length + two.length ≤ 800 by omega) (by decide)
    rw [e0, rep_flat]
    have hL0 : H L = none := s1.free hL
    have s2 := s1.trans (same_new (o := .lst ((List.replicate (one.length + two.length) (0 : Int)).map V.int)) hL)
    refine ⟨_, rfl, a1, _, rfl, .inr (SqT.of (s2 _ _ h1)), _, rfl, by rw [List.length_map]; omega, by rw [List.length_map]; omega, ?_⟩
    rw [List.length_map]
    refine for_range (lo := 0) (n := ((one.length : Nat) : Int).toNat) (fun i σ H' => Same H H' ∧ ∃ l v4 v5, σ = [some (.ref a1), some (.ref a2), some (.int p), some (.ref L), v4, v5] ∧ H' L = some (.lst (l.map V.int)) ∧ Conv p one two i 0 l)
      ⟨s2, _, none, none, rfl, upd_same, Conv.start pp⟩ ?_ ?_
    · rintro i σ H' hi ⟨sm, l, v4, v5, rfl, eL, C⟩
      have hin : i < one.length := by omega
      refine ⟨_, rfl, a2, _, rfl, .inr (SqT.of (sm _ _ h2)), _, rfl, by rw [List.length_map]; omega, by rw [List.length_map]; omega, ?_⟩
      rw [List.length_map]
      refine for_range (lo := 0) (n := ((two.length : Nat) : Int).toNat) (fun j σ H' => Same H H' ∧ ∃ l v5, σ = [some (.ref a1), some (.ref a2), some (.int p), some (.ref L), some (.int (0 + (i : Int))), v5] ∧ H' L = some (.lst (l.map V.int)) ∧ Conv p one two i j l)
        ⟨sm, l, _, rfl, eL, C⟩ ?_ ?_
      · rintro j σ H' hj ⟨sm, l, v5, rfl, eL, C⟩
        have hjn : j < two.length := by omega
        have hlt : i + j < l.length := by rw [C.len]; omega
        have r1 := cf_range pp can i
        refine ⟨_, rfl, _, rfl, _, rfl, _, _, rfl, rfl, L, _, _, .int l[i + j], rfl, rfl, SqL.of eL, ?_, ?_⟩
        · rw [show (0 : Int) + ((i : Nat) : Int) + (0 + ((j : Nat) : Int)) = ((i + j : Nat) : Int) by omega]
          exact atI_nat (ints_at (List.getElem?_eq_getElem hlt))
        refine ⟨_, rfl, _, rfl, a1, _, _, .int one[i], rfl, rfl, SqT.of (sm _ _ h1), ?_, _, rfl, _, rfl, a2, _, _, .int two[j], rfl, rfl, SqT.of (sm _ _ h2), ?_, ?_⟩
        · rw [Int.zero_add]
          exact atI_nat (ints_at (List.getElem?_eq_getElem hin))
        · rw [Int.zero_add]
          exact atI_nat (ints_at (List.getElem?_eq_getElem hjn))
        rw [cf_in hin] at r1
        refine ⟨_, _, rfl, rfl, .inl ⟨by omega, by omega⟩, _, _, rfl, rfl, _, rfl, _, _, rfl, rfl, pp, ?_⟩
        refine ⟨_, rfl, _, rfl, _, rfl, _, _, rfl, rfl, L, _, _, i + j, rfl, rfl, eL, ?_, ?_⟩
        · rw [List.length_map, show (0 : Int) + ((i : Nat) : Int) + (0 + ((j : Nat) : Int)) = ((i + j : Nat) : Int) by omega]
          unfold ixN
          rw [if_pos (by omega), if_pos (by omega)]
          congr 1
        · refine ⟨same_upd2 hL0 sm, _, _, rfl, ?_, C.step pp hin hjn⟩
          rw [upd_same, List.map_set, cf_in hlt, cf_in hin, cf_in hjn]
      · rintro σ H' ⟨sm, l, v5, rfl, eL, C⟩
        have e1 : ((two.length : Nat) : Int).toNat = two.length := by omega
        rw [e1] at C
        exact ⟨sm, l, _, _, rfl, eL, C.next⟩
    · rintro σ H' ⟨sm, l, v4, v5, rfl, eL, C⟩
      have e1 : ((one.length : Nat) : Int).toNat = one.length := by omega
      rw [e1] at C
      refine ⟨_, rfl, L, l, rfl, eL, by rw [C.len]; omega, fun H2 v z s3 hv t => ?_⟩
      refine q H2 v z (sm.trans s3) hv (t.canon C.rng) (by have := t.len; rwa [C.len] at this) fun t' => ?_
      rw [t.cfs]
      refine (C.cfs t').trans (.of_eq ?_)
      rw [if_neg (by omega), Int.mul_zero, Int.add_zero]
end
end K8

set_option Elab.async false
set_option linter.all false
set_option maxRecDepth 100000
set_option maxHeartbeats 4000000
namespace K8
open PySem PySem.Spec PyProof.Rows L2
abbrev sLRows : Stmt := topS 48
abbrev sScaled : Stmt := topS 49
theorem made_step {p : Int} {n : Nat} (hn : 0 < n) {fs fs' r : Row} {b : Poly} (h : ∀ e, e < n → ∀ t, Cg p (cf (fs'.getD e []) t) (cf (fs.getD e []) t + cvt b (cf (r.getD e [])) 1 b.length t)) (m : Nat) :
    Cg p (co n fs' m) (co n fs m + cvt b (co n r) n b.length m) := by
  have hm : m % n < n := Nat.mod_lt _ hn
  have := h (m % n) hm (m / n)
  rw [← cvt_ix b r hm, divmod_ix] at this
  exact this
theorem rep_all2 {R : V → Poly → Prop} {v : V} {l : Poly} (h : R v l) : ∀ n, All2 R (List.replicate n v) (List.replicate n l)
  | 0 => trivial
  | n + 1 => ⟨h, rep_all2 h n⟩
theorem rep_getD (n e : Nat) : (List.replicate n ([] : Poly)).getD e [] = [] := by
  rw [List.getD_eq_getElem?_getD, List.getElem?_replicate]
  split <;> rfl
theorem nils_ok (p : Int) (n : Nat) : RowOk p n (List.replicate n []) := ⟨List.length_replicate, fun l hl => by
  rw [List.eq_of_mem_replicate hl]
  exact canon_nil p⟩
theorem nils_co (n m : Nat) : co n (List.replicate n []) m = 0 := by
  unfold co
  rw [rep_getD]
  exact cf_out (Nat.zero_le _)
section
variable {P : Program} {w : World} {K : PySem.W.Frag} {mg : Str → Option Value} {base : Heap}
theorem scMade : FnScope ["_law_by", "_law_rows_here", "_law_width", "_law_p", "_law_found", "_law_one", "_law_row", "_law_end"] ["_law_by", "_law_rows_here", "_law_width", "_law_p"] (defScope sMade) := ⟨rfl, rfl, rfl, by decide +kernel, rfl, by decide +kernel, by decide +kernel⟩
def spMade (K : PySem.W.Frag) : L2.Sp := fun vs H Q _ => ∃ (a c : Addr) (n B : Nat) (p : Int) (bs : List Poly) (rows : List Row) (vb vr : List V), vs = [.ref a, .ref c, .int (n : Nat), .int p] ∧ SqL K H a vb ∧ All2 (PolyAt H) vb bs ∧ SqL K H c vr ∧ All2 (RowAt H) vr rows ∧ bs.length = rows.length ∧
  p ∈ PRIMES ∧ (∀ b ∈ bs, Canon p b ∧ b.length ≤ 2) ∧ (∀ r ∈ rows, RowOk p n r ∧ Short B r) ∧ 0 < n ∧ n ≤ 100 ∧ B ≤ 100 ∧
  ∀ H' v row, Same H H' → RowAt H' v row → RowOk p n row → Short (B + 2) row → (∀ m, Cg p (co n row m) (lin n bs rows m)) → Q v H'
theorem ok_made (D : IsDef K mg "_law_made" sMade ["_law_by", "_law_rows_here", "_law_width", "_law_p"]) (T : Blt mg) (CP : Ok P w K mg base 2 "_law_plus" ["_law_one", "_law_other", "_law_p"] spPlus) (CT : Ok P w K mg base 2 "_law_times" ["_law_one", "_law_other", "_law_p"] spTimes) :
    Ok P w K mg base 3 "_law_made" ["_law_by", "_law_rows_here", "_law_width", "_law_p"] (spMade K) := by
  refine D.ok scMade (fun vs H Q E h => ?_) (fun f cdv A outer s H vs Q E hr h => ?_)
  · obtain ⟨a, c, n, B, p, bs, rows, vb, vr, rfl, _⟩ := h
    rfl
  · obtain ⟨a, c, n, B, p, bs, rows, vb, vr, rfl, ha, hbs, hc, hrows, hlen, hp, hcan, hok, hn0, hn, hB, q⟩ := h
    have p2 := prime_pos hp
    refine ⟨_, pss_cons (ps_set (i := 4) scMade.nd rfl (Or.inr rfl) (pe_op op_rep (pe_lst (pa_cons (pe_tup pa_nil) pa_nil)) (pv 2)))
      (pss_cons (ps_for PassesOwn.never rfl (pi_zip rfl T.zip (pa_cons (pv 0) (pa_cons (pv 1) pa_nil))) (pg_tup rfl (pgs_cons (pg_name (i := 5) scMade.nd rfl (Or.inr rfl)) (pgs_cons (pg_name (i := 6) scMade.nd rfl (Or.inr rfl)) pgs_nil)))
        (pss_one (ps_set (i := 4) scMade.nd rfl (Or.inr rfl) (pe_lc (own := [("_law_end", 7)]) (g := gName 7) (tt := tYes)
          (te := tCall spPlus [] E0 (tCons (tOp (rIxL K) (tVar 4) (tVar 7)) (tCons (tCall spTimes [] E0 (tCons (tVar 5) (tCons (tOp (rIxT K) (tVar 6) (tVar 7)) (tCons (tVar 3) tNil)))) (tCons (tVar 3) tNil))))
          (by rfl) scMade.nd (pi_range1 rfl T.range (pa_cons (pv 2) pa_nil)) (blkOk_by (own := [("_law_end", 7)]) (N := ["_law_by", "_law_rows_here", "_law_width", "_law_p", "_law_found", "_law_one", "_law_row", "_law_end"]) (sc := defScope sMade) (by decide +kernel))
          (fun _ _ _ _ _ => pg_name (i := 7) scMade.nd rfl (Or.inl rfl)) (fun _ _ _ _ _ => pts_nil)
          (fun _ _ _ _ _ => pe_c CP hr (by rfl) (pa_cons (pe_ix ix_list (pv 4) (pv 7) (fun _ _ => rfl)) (pa_cons (pe_c CT hr (by rfl) (pa_cons (pv 5) (pa_cons (pe_ix ix_tup (pv 6) (pv 7) (fun _ _ => rfl)) (pa_cons (pv 3) pa_nil)))) (pa_cons (pv 3) pa_nil))))))))
      (pss_one (ps_ret (pe_callTy call_tuple_of (by rfl) T.tuple (by decide +kernel) (pa_cons (pv 4) pa_nil))))), ?_⟩
    refine ⟨Nat.zero_le _, fun t0 ht0 => ⟨(by show 1 ≤ sizeLine; decide), fun lz hlz => ?_⟩⟩
    have s1 := same_new (o := .tup []) ht0
    have s2 := s1.trans (same_new (o := .lst [.ref t0]) hlz)
    have et0 : (upd (upd H t0 (.tup [])) lz (.lst [.ref t0])) t0 = some (.tup []) := by
      rw [upd_ne (ne_of_none upd_same hlz), upd_same]
    refine ⟨_, rfl, lz, _, _, rfl, rfl, upd_same, by omega, by omega, ?_, fun L hL => ?_⟩
    · have : ((n : Nat) : Int).toNat = n := by omega
      rw [this]
      show 1 * _ ≤ _
      rw [Nat.one_mul]
      exact Nat.le_trans (show n ≤ 100 from hn) (by decide)
    have en : ((n : Nat) : Int).toNat = n := by omega
    rw [en, rep_flatV]
    have s3 := s2.trans (same_new (o := .lst (List.replicate n (V.ref t0))) hL)
    have k3 : Keeps (upd (upd H t0 (.tup [])) lz (.lst [.ref t0])) (upd (upd (upd H t0 (.tup [])) lz (.lst [.ref t0])) L (.lst (List.replicate n (V.ref t0)))) := keeps_new hL
    refine ⟨_, rfl, _, rfl, a, c, vb, vr, rfl, s3.seq ha, s3.seq hc, ?_⟩
    refine RZ.for_zipL (hbs.len.trans (hlen.trans hrows.len.symm)) (fun i σ H' => Same H H' ∧ i ≤ bs.length ∧ ∃ L vf fs v5 v6, σ = [some (.ref a), some (.ref c), some (.int (n : Nat)), some (.int p), some (.ref L), v5, v6, none] ∧
        H' L = some (.lst vf) ∧ All2 (PolyAt H') vf fs ∧ RowOk p n fs ∧ Short (B + 2) fs ∧ ∀ m, Cg p (co n fs m) (lin n (bs.take i) (rows.take i) m))
      ⟨s3, Nat.zero_le _, L, _, List.replicate n [], none, none, rfl, upd_same, rep_all2 ⟨t0, rfl, k3 _ _ et0⟩ n, nils_ok p n, fun l hl => by rw [List.eq_of_mem_replicate hl]; exact Nat.zero_le _, fun m => .of_eq (nils_co n m)⟩
      (fun i σ H' h => ⟨h.1.seq ha, h.1.seq hc⟩) ?_ ?_
    · rintro i x y Tt σ H' hx hy ⟨sm, hi, L, vf, fs, v5, v6, rfl, eL, hfs, okf, shf, cong⟩ hT
      obtain ⟨bp, hbp, x1⟩ := hbs.get hx
      obtain ⟨r, hr1, y1⟩ := hrows.get hy
      have hcb := hcan bp (List.mem_of_getElem? hbp)
      have hor := hok r (List.mem_of_getElem? hr1)
      have hil := (List.getElem?_eq_some_iff.mp hbp).1
      have tT := same_new (o := .tup [x, y]) hT
      have sT := sm.trans tT
      have eL2 := tT _ _ eL
      have hfs2 := hfs.mono fun _ _ z => PolyAt.keep z (.of tT)
      have x2 := x1.keep (.of sT)
      have y2 := y1.keep (.of sT)
      obtain ⟨ay, vy, rfl, hay, hry⟩ := id y2
      refine ⟨Tt, _, rfl, SqT.of upd_same, rfl, _, _, rfl, _, _, rfl, rfl, ?_⟩
      refine ⟨_, rfl, _, rfl, by omega, by omega, fun L3 hL3 => ?_⟩
      generalize upd H' Tt (.tup [x, .ref ay]) = H1 at tT sT eL2 hfs2 x2 y2 hay hry hL3
      have hL30 : H L3 = none := sT.free hL3
      refine lc_range (lo := 0) (n := ((n : Nat) : Int).toNat) (fun j H2 => Same H1 H2 ∧ Acc H2 L3 (fun e z => Canon p z ∧ z.length ≤ B + 2 ∧ ∀ t, Cg p (cf z t) (cf (fs.getD e []) t + cvt bp (cf (r.getD e [])) 1 bp.length t)) j) ⟨same_new hL3, Acc.start⟩ ?_ ?_
      · rintro j H2 hj ⟨t2, A1⟩
        have hjn : j < n := by omega
        obtain ⟨vj, hvj, pj⟩ := hfs2.getD_row (e := j) (by rw [okf.len]; exact hjn)
        obtain ⟨rj, hrj, qj⟩ := hry.getD_row (e := j) (by rw [hor.1.len]; exact hjn)
        have l1 := short_at shf j
        have l2 := short_at hor.2 j
        refine ⟨rfl, ?_⟩
        refine ⟨_, rfl, _, rfl, L, _, _, vj, rfl, rfl, SqL.of (t2 _ _ eL2), ?_, ?_⟩
        · rw [Int.zero_add]
          exact atI_nat hvj
        refine ⟨_, rfl, _, rfl, _, rfl, ay, _, _, rj, rfl, rfl, SqT.of (t2 _ _ hay), ?_, ?_⟩
        · rw [Int.zero_add]
          exact atI_nat hrj
        refine ⟨_, rfl, x, rj, p, bp, r.getD j [], rfl, x2.keep (.of t2), qj.keep (.of t2), hp, hcb.1, by omega, by omega, fun H3 v3 z3 t3 hv3 c3 l3 e3 => ?_⟩
        have t4 := t2.trans t3
        refine ⟨_, rfl, vj, v3, p, fs.getD j [], z3, rfl, pj.keep (.of t4), hv3, by omega, by omega, by omega, fun H4 v4 z4 t5 hv4 c4 l4 e4 => ?_⟩
        obtain ⟨acc, ea, la, A2⟩ := A1.snoc (t3.trans t5) hv4 ⟨c4, by omega, fun t => (e4 t).trans ((Cg.refl p _).add (e3 t))⟩
        exact ⟨acc, ea, small1000 (by omega), same_upd2 hL3 (t4.trans t5), A2⟩
      · rintro H2 ⟨t2, A1⟩
        rw [en] at A1
        obtain ⟨vs1, fs', eL3, z, hl3, f⟩ := A1.done
        refine ⟨sT.trans t2, hil, L3, vs1, fs', _, _, rfl, eL3, z, ⟨hl3, fun u hu => ?_⟩, fun u hu => ?_, fun m => ?_⟩
        · obtain ⟨e, he, rfl⟩ := List.getElem_of_mem hu
          have := (f e (by omega)).1
          rwa [List.getD_eq_getElem?_getD, List.getElem?_eq_getElem he] at this
        · obtain ⟨e, he, rfl⟩ := List.getElem_of_mem hu
          have := (f e (by omega)).2.1
          rwa [List.getD_eq_getElem?_getD, List.getElem?_eq_getElem he] at this
        · rw [List.take_add_one, hbp, List.take_add_one, hr1]
          show Cg p _ (lin n (bs.take i ++ [bp]) (rows.take i ++ [r]) m)
          rw [lin_snoc bp r (by rw [List.length_take, List.length_take, hlen])]
          exact (made_step hn0 (fun e he t => (f e he).2.2 t) m).trans ((cong m).add (Cg.refl p _))
    · rintro σ H' ⟨sm, hi, L, vf, fs, v5, v6, rfl, eL, hfs, okf, shf, cong⟩
      rw [hbs.len, List.take_length, hlen, List.take_length] at cong
      refine ⟨_, rfl, L, vf, rfl, .inl ⟨SqL.of eL, fun t ht => ?_⟩⟩
      have st := same_new (o := .tup vf) ht
      exact q _ _ fs (sm.trans st) ⟨t, vf, rfl, upd_same, hfs.mono fun _ _ x => PolyAt.keep x (.of st)⟩ okf shf cong
theorem scScaled : FnScope ["_law_one", "_law_number", "_law_p", "_law_part"] ["_law_one", "_law_number", "_law_p"] (defScope sScaled) := ⟨rfl, rfl, rfl, by decide +kernel, rfl, by decide +kernel, by decide +kernel⟩
def spScaled : L2.Sp := fun vs H Q _ => ∃ (v1 : V) (c p : Int) (one : Poly), vs = [v1, .int c, .int p] ∧ PolyAt H v1 one ∧ 0 < p ∧ -(2 ^ 64) < c ∧ c < 2 ^ 64 ∧ one.length ≤ 1000 ∧
  ∀ H' v z, Same H H' → PolyAt H' v z → Canon p z → z.length ≤ one.length → (∀ t, Cg p (cf z t) (cf one t * c)) → Q v H'
theorem cf_mapz {l : List Int} {f : Int → Int} (h : f 0 = 0) (t : Nat) : cf (l.map f) t = f (cf l t) := by
  unfold cf
  rw [List.getD_eq_getElem?_getD, List.getElem?_map, List.getD_eq_getElem?_getD]
  cases l[t]? with
  | none => exact h.symm
  | some x => rfl
theorem ok_scaled (D : IsDef K mg "_law_scaled" sScaled ["_law_one", "_law_number", "_law_p"]) (CC : Ok P w K mg base 1 "_law_cut" ["_law_numbers"] spLCut) : Ok P w K mg base 2 "_law_scaled" ["_law_one", "_law_number", "_law_p"] spScaled := by
  refine D.ok scScaled (fun vs H Q E h => ?_) (fun f cdv A outer s H vs Q E hr h => ?_)
  · obtain ⟨v1, c, p, one, rfl, _⟩ := h
    rfl
  · obtain ⟨v1, c, p, one, rfl, ⟨a1, rfl, h1⟩, hp, c0, c1, l1, q⟩ := h
    refine ⟨_, pss_one (ps_ret (pe_c CC hr (by rfl) (pa_cons (pe_lc (own := [("_law_part", 3)]) (g := gName 3) (tt := tYes) (by rfl) scScaled.nd (pi_tup (pv 0)) (blkOk_by (own := [("_law_part", 3)]) (N := ["_law_one", "_law_number", "_law_p", "_law_part"]) (sc := defScope sScaled) (by decide +kernel))
          (fun _ _ _ _ _ => pg_name (i := 3) scScaled.nd rfl (Or.inl rfl)) (fun _ _ _ _ _ => pts_nil) (fun _ _ _ _ _ => pe_op op_mod (pe_op op_mul (pv 3) (pv 1)) (pv 2))) pa_nil))), ?_⟩
    refine ⟨_, rfl, a1, rfl, ⟨_, SqT.of h1⟩, fun L hL => ?_⟩
    refine lc_tup (xs := one.map V.int) (fun i H' => Same H H' ∧ i ≤ one.length ∧ H' L = some (.lst (((one.take i).map fun x => x * c % p).map V.int))) ⟨same_new hL, Nat.zero_le _, upd_same⟩ (fun i H' _ h => SqT.of (h.1 _ _ h1)) ?_ ?_
    · rintro i x H' hx ⟨sm, hi, eL⟩
      obtain ⟨z, rfl, hz⟩ := ints_get hx
      have hil := (List.getElem?_eq_some_iff.mp hz).1
      refine ⟨rfl, ?_⟩
      refine ⟨_, rfl, _, rfl, _, _, rfl, rfl, .inr ⟨c0, c1⟩, _, rfl, _, _, rfl, rfl, hp, _, eL, ?_, same_upd2 hL sm, hil, ?_⟩
      · rw [List.length_map, List.length_map, List.length_take]
        exact small1000 (by omega)
      · rw [upd_same, List.take_add_one, hz, List.map_append, List.map_append]
        rfl
    · rintro H' ⟨sm, hi, eL⟩
      rw [List.length_map, List.take_length] at eL
      refine ⟨L, _, rfl, eL, by rw [List.length_map]; exact l1, fun H2 v z s2 hv t => ?_⟩
      refine q H2 v z (sm.trans s2) hv (t.canon fun x hx => ?_) (by have := t.len; rwa [List.length_map] at this) fun t' => ?_
      · obtain ⟨y, _, rfl⟩ := List.mem_map.mp hx
        exact ⟨Int.emod_nonneg _ (by omega), Int.emod_lt_of_pos _ hp⟩
      · rw [t.cfs, cf_mapz (f := fun x => x * c % p) (by show 0 * c % p = 0; rw [Int.zero_mul, Int.zero_emod])]
        exact Cg.emod _ _
end
end K8

set_option Elab.async false
set_option linter.all false
set_option maxRecDepth 100000
set_option maxHeartbeats 4000000
namespace K8
open PySem PySem.Spec PyProof.Rows L2
abbrev sStirred : Stmt := topS 50
theorem wipe1 (σ : L2.St) (i : Nat) (x : Option V) : wipe ((wipe σ [i]).set i x) [i] = wipe σ [i] := by
  show (((σ.set i none).set i x).set i none) = σ.set i none
  rw [List.set_set, List.set_set]
theorem wipe1_at {σ : L2.St} {i : Nat} (h : i < σ.length) (x : Option V) : ((wipe σ [i]).set i x)[i]? = some x := by
  show ((σ.set i none).set i x)[i]? = some x
  rw [List.getElem?_set_self (by rw [List.length_set]; exact h)]
theorem wipe1_ne {σ : L2.St} {i j : Nat} (h : j ≠ i) (x : Option V) : ((wipe σ [i]).set i x)[j]? = σ[j]? := by
  show ((σ.set i none).set i x)[j]? = σ[j]?
  rw [List.getElem?_set_ne (Ne.symm h), List.getElem?_set_ne (Ne.symm h)]
theorem wipe1_len {σ : L2.St} {i : Nat} (x : Option V) : ((wipe σ [i]).set i x).length = σ.length := by
  show ((σ.set i none).set i x).length = σ.length
  rw [List.length_set, List.length_set]
/-! ### all([all([len(one) < 13 ..]) ..]) -/
def tLen13 (K : PySem.W.Frag) (i2 : Nat) : TE := tOp (rI0 fun i j => .bl (decide (i < j))) (tCB (fun xs H Q => ∃ p ys, xs = [V.ref p] ∧ (SqL K H p ys ∨ SqT K H p ys) ∧ Q (.int ys.length) H) (tCons (tVar i2) tNil)) (tC (.int 13))
def tShort1 (K : PySem.W.Frag) (i i2 : Nat) : TE := tCB (rAll K) (tCons (tLc (iTup K (tVar i)) (gName i2) tYes (tLen13 K i2) [i2]) tNil)
def tShort (K : PySem.W.Frag) (j i i2 : Nat) : TE := tCB (rAll K) (tCons (tLc (iList K (tVar j)) (gName i) tYes (tShort1 K i i2) [i]) tNil)
def isShort (row : Row) : Bool := row.all fun l => decide (l.length < 13)
theorem isShort_of {row : Row} (h : isShort row = true) : Short 12 row := fun l hl => by
  have := of_decide_eq_true (List.all_eq_true.mp h l hl)
  omega
theorem read_short1 {K : PySem.W.Frag} {i i2 : Nat} {σ : L2.St} {H : Hp} {a : Addr} {vs : List V} {row : Row} {Q : VK} (hi : σ[i]? = some (some (.ref a))) (h2 : i2 < σ.length) (ha : H a = some (.tup vs)) (hr : All2 (PolyAt H) vs row) (hl : row.length ≤ 1000)
    (q : ∀ H', Same H H' → Q (.bl (isShort row)) H') : tShort1 K i i2 σ H Q := by
  refine ⟨_, hi, a, rfl, ⟨_, SqT.of ha⟩, fun L hL => ?_⟩
  refine lc_tup (xs := vs) (fun k H' => Same H H' ∧ H' L = some (.lst (((row.take k).map fun l => decide (l.length < 13)).map V.bl))) ⟨same_new hL, upd_same⟩ (fun k H' _ h => SqT.of (h.1 _ _ ha)) ?_ ?_
  · rintro k x H' hx ⟨sm, eL⟩
    obtain ⟨l, hl1, ax, rfl, hax⟩ := hr.get hx
    refine ⟨wipe1 _ _ _, ?_⟩
    refine ⟨_, wipe1_at h2 _, ax, _, rfl, .inr (SqT.of (sm _ _ hax)), _, _, rfl, rfl, _, eL, ?_, same_upd2 hL sm, ?_⟩
    · rw [List.length_map, List.length_map, List.length_take]
      exact small1000 (by omega)
    · rw [upd_same, List.take_add_one, hl1, List.map_append, List.map_append, List.length_map]
      have : decide (((l.length : Nat) : Int) < 13) = decide (l.length < 13) := decide_eq_decide.mpr (by omega)
      show some (HO.lst (_ ++ [V.bl (decide (((l.length : Nat) : Int) < 13))])) = _
      rw [this]
      rfl
  · rintro H' ⟨sm, eL⟩
    rw [hr.len, List.take_length] at eL
    refine ⟨L, _, rfl, SqL.of eL, ?_⟩
    rw [List.all_map]
    exact q _ sm
theorem read_short {K : PySem.W.Frag} {j i i2 : Nat} {σ : L2.St} {H : Hp} {a : Addr} {vs : List V} {rows : List Row} {Q : VK} (hj : σ[j]? = some (some (.ref a))) (h1 : i < σ.length) (h2 : i2 < σ.length) (ha : SqL K H a vs) (hr : All2 (RowAt H) vs rows) (hl : rows.length ≤ 1000) (hw : ∀ r ∈ rows, r.length ≤ 1000)
    (q : ∀ H', Same H H' → Q (.bl (rows.all isShort)) H') : tShort K j i i2 σ H Q := by
  refine ⟨_, hj, a, rfl, ⟨_, ha⟩, fun L hL => ?_⟩
  refine lc_list (xs := vs) (fun k H' => Same H H' ∧ H' L = some (.lst (((rows.take k).map isShort).map V.bl))) ⟨same_new hL, upd_same⟩ (fun k H' _ h => h.1.seq ha) ?_ ?_
  · rintro k x H' hx ⟨sm, eL⟩
    obtain ⟨r, hr1, ax, vx, rfl, hax, hpx⟩ := hr.get hx
    refine ⟨wipe1 _ _ _, ?_⟩
    refine read_short1 (wipe1_at h1 _) (by rw [wipe1_len]; exact h2) (sm _ _ hax) (hpx.mono fun _ _ z => PolyAt.keep z (.of sm)) (hw r (List.mem_of_getElem? hr1)) fun H2 s2 => ?_
    refine ⟨_, s2 _ _ eL, ?_, same_upd2 hL (sm.trans s2), ?_⟩
    · rw [List.length_map, List.length_map, List.length_take]
      exact small1000 (by omega)
    · rw [upd_same, List.take_add_one, hr1, List.map_append, List.map_append]
      rfl
  · rintro H' ⟨sm, eL⟩
    rw [hr.len, List.take_length] at eL
    refine ⟨L, _, rfl, SqL.of eL, ?_⟩
    rw [List.all_map]
    exact q _ sm
theorem tCons_in {ta : TE} {tr : TA} {σ : L2.St} {H : Hp} {Q : List V → Hp → Prop} (h : ta σ H fun x H1 => tr σ H1 fun xs H2 => Q (x :: xs) H2) : tCons ta tr σ H Q := h
theorem tCall_in {sp : L2.Sp} {dvs : List V} {E : XK} {t : TA} {σ : L2.St} {H : Hp} {Q : VK} (h : t σ H fun vs H1 => sp (vs ++ dvs) H1 Q E) : tCall sp dvs E t σ H Q := h
/-! ### [_law_sum(bag, p, 2) for row in rows] -/
theorem read_sums {K : PySem.W.Frag} {b l L : Addr} {p : Int} {i j pj : Nat} {σ : L2.St} {H : Hp} {Q : VK} {vs : List V} (hj : σ[j]? = some (some (.ref L))) (h0 : σ[0]? = some (some (.ref b))) (n0 : 0 ≠ i) (hpj : σ[pj]? = some (some (.int p))) (npj : pj ≠ i) (hL : H L = some (.lst vs)) (nL : L ≠ b)
    (g : BagAt H b l) (hp : p ∈ PRIMES) (len : vs.length ≤ 100)
    (q : ∀ H' L2 vb bs, SameB b H H' → BagAt H' b l → H L2 = none → H' L2 = some (.lst vb) → All2 (PolyAt H') vb bs → bs.length = vs.length → (∀ z ∈ bs, Canon p z ∧ z.length ≤ 2) → Q (.ref L2) H') :
    tLc (iList K (tVar j)) (gName i) tYes (tCall spLSum [] E0 (tCons (tVar 0) (tCons (tVar pj) (tCons (tC (.int 2)) tNil)))) [i] σ H Q := by
  refine ⟨_, hj, L, rfl, ⟨_, SqL.of hL⟩, fun L2 hL2 => ?_⟩
  have n2 := g.fresh hL2
  refine lc_list (xs := vs) (fun k H' => SameB b H H' ∧ BagAt H' b l ∧ k ≤ vs.length ∧ ∃ vb bs, H' L2 = some (.lst vb) ∧ All2 (PolyAt H') vb bs ∧ bs.length = k ∧ ∀ z ∈ bs, Canon p z ∧ z.length ≤ 2)
    ⟨SameB.of (same_new hL2), g.new hL2, Nat.zero_le _, [], [], upd_same, trivial, rfl, fun z h => (nomatch h)⟩ (fun k H' _ h => SqL.of (h.1 _ _ nL hL)) ?_ ?_
  · rintro k x H' hx ⟨sm, g', hk, vb, bs, eL, hbs, hlen, hcan⟩
    have hkl := (List.getElem?_eq_some_iff.mp hx).1
    refine ⟨wipe1 _ _ _, ?_⟩
    refine ⟨_, by rw [wipe1_ne n0]; exact h0, _, by rw [wipe1_ne npj]; exact hpj, b, l, p, 2, rfl, g', hp, by decide, by decide, fun H2 v z s2 g2 hv hc hl => ?_⟩
    have eL2 := s2 _ _ n2.1.symm eL
    have vl := hbs.len
    have k2 : Keeps H' H2 := s2.keeps g'
    have k3 : Keeps H2 (upd H2 L2 (.lst (vb ++ [v]))) := keeps_lst eL2
    refine ⟨vb, eL2, small1000 (by omega), SameB.new hL2 (sm.trans s2), g2.write n2, hkl, vb ++ [v], bs ++ [z], upd_same, (hbs.mono fun _ _ x => (PolyAt.keep x k2).keep k3).snoc (hv.keep k3), by rw [List.length_append, hlen]; rfl, fun y hy => ?_⟩
    rcases List.mem_append.mp hy with hy | hy
    · exact hcan y hy
    · rw [List.mem_singleton] at hy
      subst hy
      exact ⟨hc, hl⟩
  · rintro H' ⟨sm, g', hk, vb, bs, eL, hbs, hlen, hcan⟩
    exact q H' L2 vb bs sm g' hL2 eL hbs hlen hcan
section
variable {P : Program} {w : World} {K : PySem.W.Frag} {mg : Str → Option Value} {base : Heap}
theorem scLRows : FnScope ["_law_bag_here", "_law_p", "_law_width", "_law_most", "_law_rows_here", "_law_k", "_law_row"] ["_law_bag_here", "_law_p", "_law_width", "_law_most"] (defScope sLRows) := ⟨rfl, rfl, rfl, by decide +kernel, rfl, by decide +kernel, by decide +kernel⟩
def spLRows : L2.Sp := fun vs H Q _ => ∃ (b l : Addr) (p : Int) (n : Nat), vs = [.ref b, .int p, .int (n : Nat), .int 3] ∧ BagAt H b l ∧ p ∈ PRIMES ∧ 0 < n ∧ n ≤ 100 ∧
  ∀ H' L vs rows, SameB b H H' → BagAt H' b l → H L = none → H' L = some (.lst vs) → All2 (RowAt H') vs rows → rows.length ≤ 4 → (∀ r ∈ rows, RowOk p n r ∧ Short 5 r) → Q (.ref L) H'
theorem ok_lrows (D : IsDef K mg "_law_rows" sLRows ["_law_bag_here", "_law_p", "_law_width", "_law_most"]) (T : Blt mg) (CP : Ok P w K mg base 1 "_law_pull" ["_law_bag_here", "_law_many"] spPull) (CS : Ok P w K mg base 3 "_law_sum" ["_law_bag_here", "_law_p", "_law_most"] spLSum)
    (CD : Ok P w K mg base 4 "_law_spread" ["_law_bag_here", "_law_p", "_law_width", "_law_most"] spSpread) (CM : Ok P w K mg base 3 "_law_made" ["_law_by", "_law_rows_here", "_law_width", "_law_p"] (spMade K)) :
    Ok P w K mg base 5 "_law_rows" ["_law_bag_here", "_law_p", "_law_width", "_law_most"] spLRows := by
  refine D.ok scLRows (fun vs H Q E h => ?_) (fun f cdv A outer s H vs Q E hr h => ?_)
  · obtain ⟨b, l, p, n, rfl, _⟩ := h
    rfl
  · obtain ⟨b, l, p, n, rfl, hb, hp, hn0, hn, q⟩ := h
    have hr1 : Room 1 _ := hr.mono (by decide)
    have hr3 : Room 3 _ := hr.mono (by decide)
    refine ⟨_, pss_cons (ps_setLc (i := 4) (own := [("_law_k", 5)]) (g := gName 5) (tt := tYes) (by rfl) scLRows.nd rfl rfl (sw_true rfl rfl rfl (by decide +kernel)) (pi_range1 rfl T.range (pa_cons (pe_c CP hr1 (by rfl) (pa_cons (pv 0) (pa_cons pe_int pa_nil))) pa_nil))
          (blkOk_by (own := [("_law_k", 5)]) (N := ["_law_bag_here", "_law_p", "_law_width", "_law_most", "_law_rows_here", "_law_k", "_law_row"]) (sc := defScope sLRows) (by decide +kernel)) (fun _ _ _ _ _ => pg_name (i := 5) scLRows.nd rfl (Or.inl rfl)) (fun _ _ _ _ _ => pts_nil)
          (fun _ _ _ _ _ => pe_c CD hr (by rfl) (pa_cons (pv 0) (pa_cons (pv 1) (pa_cons (pv 2) (pa_cons (pv 3) pa_nil))))))
      (pss_cons (ps_if (PW.pt (pw_and (pt_cmpR op_gt (pe_callB call_len_seq (by rfl) T.len PySem.boot_len (pa_cons (pv 4) pa_nil)) pe_int (nomark _)) (pw_and1 (pt_cmpR op_eq (pe_c CP hr1 (by rfl) (pa_cons (pv 0) (pa_cons pe_int pa_nil))) pe_int (nomark _)))))
        (pss_one (ps_expr (pe_bm PySem.F.plainAttrs_list PySem.F.slot_list_append PySem.F.type_list_append mt_append (pv 4) (pa_cons (pe_c CM hr3 (by rfl) (pa_cons
          (pe_lc (own := [("_law_row", 6)]) (g := gName 6) (tt := tYes) (by rfl) scLRows.nd (pi_list (pv 4)) (blkOk_by (own := [("_law_row", 6)]) (N := ["_law_bag_here", "_law_p", "_law_width", "_law_most", "_law_rows_here", "_law_k", "_law_row"]) (sc := defScope sLRows) (by decide +kernel))
            (fun _ _ _ _ _ => pg_name (i := 6) scLRows.nd rfl (Or.inl rfl)) (fun _ _ _ _ _ => pts_nil) (fun _ _ _ _ _ => pe_c CS hr3 (by rfl) (pa_cons (pv 0) (pa_cons (pv 1) (pa_cons pe_int pa_nil)))))
          (pa_cons (pv 4) (pa_cons (pv 2) (pa_cons (pv 1) pa_nil))))) pa_nil)))) pss_nil)
      (pss_one (ps_ret (pv 4)))), ?_⟩
    refine ⟨_, rfl, b, l, 4, rfl, hb, by decide, by decide, fun H1 r s1 g1 r0 r1 => ?_⟩
    refine ⟨_, rfl, by omega, by omega, fun L hL => ?_⟩
    have nL := g1.fresh hL
    have hL0 : H L = none := s1.free g1 hL
    refine lc_range (lo := 0) (n := r.toNat) (fun i H' => SameB b H1 H' ∧ BagAt H' b l ∧ ∃ vs rows, H' L = some (.lst vs) ∧ All2 (RowAt H') vs rows ∧ rows.length = i ∧ ∀ r ∈ rows, RowOk p n r ∧ Short 3 r)
      ⟨SameB.of (same_new hL), g1.new hL, [], [], upd_same, trivial, rfl, fun z h => (nomatch h)⟩ ?_ ?_
    · rintro i H' hi ⟨sm, g, vs, rows, eL, hrows, hlen, hok⟩
      have vl := hrows.len
      refine ⟨rfl, ?_⟩
      refine ⟨_, rfl, _, rfl, _, rfl, _, rfl, b, l, p, n, 3, rfl, g, hp, hn, by decide, by decide, fun H2 v row s2 g2 hv ho hs => ?_⟩
      have eL2 := s2 _ _ nL.1.symm eL
      have k2 : Keeps H' H2 := s2.keeps g
      have k3 : Keeps H2 (upd H2 L (.lst (vs ++ [v]))) := keeps_lst eL2
      refine ⟨vs, eL2, small1000 (by omega), SameB.new hL (sm.trans s2), g2.write nL, vs ++ [v], rows ++ [row], upd_same, (hrows.mono fun _ _ x => (RowAt.keep x k2).keep k3).snoc (hv.keep k3), by rw [List.length_append, hlen]; rfl, fun y hy => ?_⟩
      rcases List.mem_append.mp hy with hy | hy
      · exact hok y hy
      · rw [List.mem_singleton] at hy
        subst hy
        exact ⟨ho, hs⟩
    · rintro H' ⟨sm, g, vs, rows, eL, hrows, hlen, hok⟩
      have vl := hrows.len
      have ok5 : ∀ r ∈ rows, RowOk p n r ∧ Short 5 r := fun r hr => ⟨(hok r hr).1, fun z hz => Nat.le_trans ((hok r hr).2 z hz) (by decide)⟩
      refine ⟨_, rfl, L, _, rfl, .inl (SqL.of eL), _, _, rfl, rfl, _, rfl, ?_⟩
      by_cases h1 : (1 : Int) < (vs.length : Nat)
      · rw [decide_eq_true h1]
        refine ⟨_, rfl, b, l, 3, rfl, g, by decide, by decide, fun H2 r2 s2 g2 r20 r21 => ⟨rfl, _, rfl, ?_⟩⟩
        have eL2 := s2 _ _ nL.1.symm eL
        have k2 : Keeps H' H2 := s2.keeps g
        have hrows2 := hrows.mono fun _ _ x => RowAt.keep x k2
        by_cases e0 : r2 = 0
        · rw [decide_eq_true (by rw [e0])]
          refine ⟨_, rfl, .inl ⟨rfl, _, SqL.of eL2⟩, ?_⟩
          refine tCons_in (tCall_in (tCons_in ?_))
          refine read_sums (l := l) (i := 6) (j := 4) (pj := 1) (by rfl) (by rfl) (by decide) (by rfl) (by decide) eL2 nL.1.symm g2 hp (by omega) fun H3 L2 vb bs s3 g3 hL2 eL3 hbs hbl hcan => ?_
          have eL4 := s3 _ _ nL.1.symm eL2
          have k3 : Keeps H2 H3 := s3.keeps g2
          refine ⟨_, rfl, _, rfl, _, rfl, L2, L, n, 3, p, bs, rows, vb, vs, rfl, SqL.of eL3, hbs, SqL.of eL4, hrows2.mono fun _ _ x => RowAt.keep x k3, by omega, hp, hcan, hok, hn0, hn, by decide, fun H4 v row s4 hv ho hs hlin => ?_⟩
          have eL5 := s4 _ _ eL4
          have k4 : Keeps H3 H4 := .of s4
          have k5 : Keeps H4 (upd H4 L (.lst (vs ++ [v]))) := keeps_lst eL5
          refine ⟨L, vs, v, rfl, rfl, eL5, small1000 (by omega), ?_⟩
          refine ⟨_, rfl, q _ L _ (rows ++ [row]) (s1.trans (SameB.new hL (sm.trans (s2.trans (s3.trans (SameB.of s4)))))) ((g3.same s4).write nL) hL0 upd_same ((hrows2.mono fun _ _ x => ((RowAt.keep x k3).keep k4).keep k5).snoc (hv.keep k5)) (by rw [List.length_append, List.length_singleton]; omega) fun y hy => ?_⟩
          rcases List.mem_append.mp hy with hy | hy
          · exact ok5 y hy
          · rw [List.mem_singleton] at hy
            subst hy
            exact ⟨ho, hs⟩
        · rw [decide_eq_false (fun z => e0 (V.int.inj z))]
          exact ⟨_, rfl, q _ L vs rows (s1.trans (sm.trans s2)) g2 hL0 eL2 hrows2 (by omega) ok5⟩
      · rw [decide_eq_false h1]
        exact ⟨_, rfl, q _ L vs rows (s1.trans sm) g hL0 eL hrows (by omega) ok5⟩
end
end K8

set_option Elab.async false
set_option linter.all false
set_option maxRecDepth 100000
set_option maxHeartbeats 4000000
namespace K8
open PySem PySem.Spec PyProof.Rows L2
/-! ### ways into a reading -/
theorem tIfS_in {c : TT} {t u : TS} {D : Ends} {σ : L2.St} {H : Hp} (h : c σ H fun b H1 => if b = true then t D σ H1 else u D σ H1) : tIfS c t u D σ H := h
theorem nx_in {x : L2.St → Hp → Prop} {y : V → Hp → Prop} {z u : L2.St → Hp → Prop} {σ : L2.St} {H : Hp} (h : x σ H) : (Ends.mk x y z u).nx σ H := h
theorem tRet_in {te : TE} {D : Ends} {σ : L2.St} {H : Hp} (h : te σ H D.rt) : tRet te D σ H := h
theorem tIf_in {t : TT} {ta tb : TE} {σ : L2.St} {H : Hp} {Q : VK} (h : t σ H fun c H1 => if c = true then ta σ H1 Q else tb σ H1 Q) : tIf t ta tb σ H Q := h
theorem tB_in {t : TE} {σ : L2.St} {H : Hp} {Q : Bool → Hp → Prop} (h : t σ H fun x H1 => ∃ c, x = .bl c ∧ Q c H1) : tB t σ H Q := h
theorem tAnd_dec {t u : TT} {σ : L2.St} {H : Hp} {Q : Bool → Hp → Prop} (c1 c2 : Bool) (ht : ∀ Q' : Bool → Hp → Prop, Q' c1 H → t σ H Q') (hu : ∀ Q' : Bool → Hp → Prop, Q' c2 H → u σ H Q') (q : Q (c1 && c2) H) : tAnd t u σ H Q := by
  refine ht _ ?_
  cases c1 with
  | true => exact hu _ q
  | false => exact q
theorem decV (i j : Int) : V.bl (decide (V.int i = V.int j)) = V.bl (decide (i = j)) := by
  congr 1
  exact decide_eq_decide.mpr ⟨fun h => V.int.inj h, fun h => by rw [h]⟩
theorem decVn (i j : Int) : V.bl (!decide (V.int i = V.int j)) = V.bl (!decide (i = j)) := by
  have := V.bl.inj (decV i j)
  rw [this]
theorem scaled_row {p c : Int} {n : Nat} (hn : 0 < n) {row row' : Row} (h : ∀ e, e < n → ∀ t, Cg p (cf (row'.getD e []) t) (cf (row.getD e []) t * c)) (m : Nat) : Cg p (co n row' m) (co n row m * c) := h _ (Nat.mod_lt _ hn) _
theorem cvt_one (f : Fn) (n m : Nat) : cvt [1] f n 1 m = f m := by
  show 0 + cf [1] 0 * sh (0 * n) f m = f m
  rw [Nat.zero_mul, sh_zero]
  show 0 + 1 * f m = f m
  omega
theorem RowOk.of_at {p : Int} {n : Nat} {row : Row} (hl : row.length = n) (h : ∀ e, e < n → Canon p (row.getD e [])) : RowOk p n row := ⟨hl, fun u hu => by
  obtain ⟨e, he, rfl⟩ := List.getElem_of_mem hu
  have := h e (by omega)
  rwa [List.getD_eq_getElem?_getD, List.getElem?_eq_getElem he] at this⟩
theorem Short.of_at {b n : Nat} {row : Row} (hl : row.length = n) (h : ∀ e, e < n → (row.getD e []).length ≤ b) : Short b row := fun u hu => by
  obtain ⟨e, he, rfl⟩ := List.getElem_of_mem hu
  have := h e (by omega)
  rwa [List.getD_eq_getElem?_getD, List.getElem?_eq_getElem he] at this
theorem canon_one {p : Int} (hp : 2 ≤ p) : Canon p [1] := ⟨fun x hx => by
  rw [List.mem_singleton] at hx
  omega, fun x hx => by
  have : (1 : Int) = x := by simpa using hx
  omega⟩
theorem ixN_nat {n k : Nat} (h : k < n) : ixN n (k : Int) = some k := by
  unfold ixN
  rw [if_pos (by omega), if_pos (by omega)]
  congr 1
/-- the rows while they are stirred -/
structure StirI (p : Int) (n : Nat) (rows0 : List Row) (i : Nat) (rows : List Row) : Prop where
  few : rows.length ≤ 9
  ok : ∀ r ∈ rows, RowOk p n r ∧ Short (5 + 2 * i) r
  eqv : Eqv p n rows rows0
theorem short_up {a b : Nat} {r : Row} (h : Short a r) (l : a ≤ b) : Short b r := fun z hz => Nat.le_trans (h z hz) l
section
variable {p : Int} {n i : Nat} {rows0 rows : List Row}
theorem StirI.same (I : StirI p n rows0 i rows) : StirI p n rows0 (i + 1) rows := ⟨I.few, fun r hr => ⟨(I.ok r hr).1, short_up (I.ok r hr).2 (by omega)⟩, I.eqv⟩
theorem StirI.ins (I : StirI p n rows0 i rows) {k : Nat} {r : Row} (h : rows.length < 9) (o : RowOk p n r) (s : Short (5 + 2 * (i + 1)) r) (z : Sl p n rows (co n r)) : StirI p n rows0 (i + 1) (rows.take k ++ [r] ++ rows.drop k) := by
  refine ⟨?_, fun x hx => ?_, stir_insert I.eqv z⟩
  · rw [List.length_append, List.length_append, List.length_take, List.length_drop, List.length_singleton]
    omega
  · rcases List.mem_cons.mp ((mem_insert_iff rows k r x).mp hx) with rfl | hx
    · exact ⟨o, s⟩
    · exact I.same.ok x hx
theorem StirI.set (I : StirI p n rows0 i rows) {k : Nat} {r : Row} (o : RowOk p n r) (s : Short (5 + 2 * (i + 1)) r) (e : Eqv p n (rows.set k r) rows0) : StirI p n rows0 (i + 1) (rows.set k r) := by
  refine ⟨by rw [List.length_set]; exact I.few, fun x hx => ?_, e⟩
  rcases List.mem_or_eq_of_mem_set hx with hx | rfl
  · exact I.same.ok x hx
  · exact ⟨o, s⟩
theorem StirI.swap (I : StirI p n rows0 i rows) {k j : Nat} {a b : Row} (ha : rows[k]? = some a) (hb : rows[j]? = some b) (n' : k ≠ j) : StirI p n rows0 (i + 1) ((rows.set k b).set j a) :=
  ⟨by rw [List.length_set, List.length_set]; exact I.few, fun x hx => I.same.ok x ((mem_swap_iff ha hb n' x).mp hx), stir_swap I.eqv ha hb n'⟩
end
section
variable {P : Program} {w : World} {K : PySem.W.Frag} {mg : Str → Option Value} {base : Heap}
theorem scStirred : FnScope ["_law_bag_here", "_law_rows_here", "_law_width", "_law_p", "_law_found", "_law_step", "_law_kind", "_law_k", "_law_j", "_law_number", "_law_row", "_law_one"] ["_law_bag_here", "_law_rows_here", "_law_width", "_law_p"] (defScope sStirred) := ⟨rfl, rfl, rfl, by decide +kernel, rfl, by decide +kernel, by decide +kernel⟩
def spStirred : L2.Sp := fun vs H Q _ => ∃ (b l a : Addr) (n : Nat) (p : Int) (va : List V) (rows0 : List Row), vs = [.ref b, .ref a, .int (n : Nat), .int p] ∧ BagAt H b l ∧ H a = some (.lst va) ∧ a ≠ b ∧ All2 (RowAt H) va rows0 ∧ p ∈ PRIMES ∧ 0 < n ∧ n ≤ 12 ∧ rows0.length ≤ 4 ∧ (∀ r ∈ rows0, RowOk p n r ∧ Short 5 r) ∧
  ∀ H' L vs rows, SameB b H H' → BagAt H' b l → H L = none → H' L = some (.lst vs) → All2 (RowAt H') vs rows → rows.length ≤ 12 → (∀ r ∈ rows, Good p n r) → Eqv p n rows rows0 → Q (.ref L) H'
theorem ok_stirred (D : IsDef K mg "_law_stirred" sStirred ["_law_bag_here", "_law_rows_here", "_law_width", "_law_p"]) (T : Blt mg) (CP : Ok P w K mg base 1 "_law_pull" ["_law_bag_here", "_law_many"] spPull) (CS : Ok P w K mg base 3 "_law_sum" ["_law_bag_here", "_law_p", "_law_most"] spLSum)
    (CM : Ok P w K mg base 3 "_law_made" ["_law_by", "_law_rows_here", "_law_width", "_law_p"] (spMade K)) (CC : Ok P w K mg base 2 "_law_scaled" ["_law_one", "_law_number", "_law_p"] spScaled) :
    Ok P w K mg base 4 "_law_stirred" ["_law_bag_here", "_law_rows_here", "_law_width", "_law_p"] spStirred := by
  refine D.ok scStirred (fun vs H Q E h => ?_) (fun f cdv A outer s H vs Q E hr h => ?_)
  · obtain ⟨b, l, a, n, p, va, rows0, rfl, _⟩ := h
    rfl
  · obtain ⟨b, l, a, n, p, va, rows0, rfl, hb, ha, nab, hva, hp, hn0, hn, hlen, hok, q⟩ := h
    have p2 := prime_pos hp
    have hr1 : Room 1 _ := hr.mono (by decide)
    have hr2 : Room 2 _ := hr.mono (by decide)
    refine ⟨_, pss_cons (ps_set (i := 4) scStirred.nd rfl (.inl rfl) (pe_callTy call_list_of (by rfl) T.list (by decide +kernel) (pa_cons (pv 1) pa_nil)))
      (pss_cons (ps_for PassesOwn.never rfl (pi_range1 rfl T.range (pa_cons (pe_c CP hr1 (by rfl) (pa_cons (pv 0) (pa_cons pe_int pa_nil))) pa_nil)) (pg_name (i := 5) scStirred.nd rfl (.inl rfl))
        (pss_cons (ps_par3 (i := 6) (j := 7) (l := 8) rfl scStirred.nd rfl rfl rfl (by decide) (by decide) (by decide) rfl rfl rfl (pa_cons (pe_c CP hr1 (by rfl) (pa_cons (pv 0) (pa_cons pe_int pa_nil)))
            (pa_cons (pe_c CP hr1 (by rfl) (pa_cons (pv 0) (pa_cons (pe_op op_add (pe_callB call_len_seq (by rfl) T.len PySem.boot_len (pa_cons (pv 4) pa_nil)) pe_int) pa_nil)))
            (pa_cons (pe_c CP hr1 (by rfl) (pa_cons (pv 0) (pa_cons (pe_op op_add (pe_callB call_len_seq (by rfl) T.len PySem.boot_len (pa_cons (pv 4) pa_nil)) pe_int) pa_nil))) pa_nil))) (by rfl))
        (pss_one (ps_if (PW.pt (pw_and (pt_cmpR op_eq (pv 6) pe_int (nomark _)) (pw_and1 (pt_cmpR op_lt (pe_callB call_len_seq (by rfl) T.len PySem.boot_len (pa_cons (pv 4) pa_nil)) pe_int (nomark _)))))
          (pss_one (ps_expr (pe_bm PySem.F.plainAttrs_list PySem.F.slot_list_insert PySem.F.type_list_insert mt_insert (pv 4) (pa_cons (pv 7) (pa_cons (pe_op op_repTA (pe_tup (pa_cons (pe_tup pa_nil) pa_nil)) (pv 2)) pa_nil)))))
        (pss_one (ps_if (PW.pt (pw_and (pt_cmpR op_eq (pv 6) pe_int (nomark _)) (pw_and1 (pt_cmpR op_lt (pe_callB call_len_seq (by rfl) T.len PySem.boot_len (pa_cons (pv 4) pa_nil)) pe_int (nomark _)))))
          (pss_one (ps_expr (pe_bm PySem.F.plainAttrs_list PySem.F.slot_list_insert PySem.F.type_list_insert mt_insert (pv 4) (pa_cons (pv 7) (pa_cons (pe_c CM (hr.mono (by decide)) (by rfl) (pa_cons
            (pe_lc (own := [("_law_row", 10)]) (g := gName 10) (tt := tYes) (by rfl) scStirred.nd (pi_list (pv 4)) (blkOk_by (own := [("_law_row", 10)]) (N := ["_law_bag_here", "_law_rows_here", "_law_width", "_law_p", "_law_found", "_law_step", "_law_kind", "_law_k", "_law_j", "_law_number", "_law_row", "_law_one"]) (sc := defScope sStirred) (by decide +kernel))
              (fun _ _ _ _ _ => pg_name (i := 10) scStirred.nd rfl (Or.inl rfl)) (fun _ _ _ _ _ => pts_nil) (fun _ _ _ _ _ => pe_c CS (hr.mono (by decide)) (by rfl) (pa_cons (pv 0) (pa_cons (pv 3) (pa_cons pe_int pa_nil)))))
            (pa_cons (pv 4) (pa_cons (pv 2) (pa_cons (pv 3) pa_nil))))) pa_nil)))))
        (pss_one (ps_if (PW.pt (pw_and (pt_cmpR op_lt (pv 7) (pe_callB call_len_seq (by rfl) T.len PySem.boot_len (pa_cons (pv 4) pa_nil)) (nomark _)) (pw_and1 (pt_cmpR op_eq (pv 6) pe_int (nomark _)))))
          (pss_cons (ps_set (i := 9) scStirred.nd rfl (Or.inr rfl) (pe_op op_add pe_int (pe_c CP hr1 (by rfl) (pa_cons (pv 0) (pa_cons (pe_op op_sub (pv 3) pe_int) pa_nil)))))
          (pss_one (ps_asg (pe_callTy call_tuple_of (by rfl) T.tuple (by decide +kernel) (pa_cons
            (pe_lc (own := [("_law_one", 11)]) (g := gName 11) (tt := tYes) (by rfl) scStirred.nd (pi_tup (pe_ix ix_list (pv 4) (pv 7) (fun _ _ => rfl))) (blkOk_by (own := [("_law_one", 11)]) (N := ["_law_bag_here", "_law_rows_here", "_law_width", "_law_p", "_law_found", "_law_step", "_law_kind", "_law_k", "_law_j", "_law_number", "_law_row", "_law_one"]) (sc := defScope sStirred) (by decide +kernel))
              (fun _ _ _ _ _ => pg_name (i := 11) scStirred.nd rfl (Or.inl rfl)) (fun _ _ _ _ _ => pts_nil) (fun _ _ _ _ _ => pe_c CC hr2 (by rfl) (pa_cons (pv 11) (pa_cons (pv 9) (pa_cons (pv 3) pa_nil))))) pa_nil)) (pg_sub (pv 4) (pv 7) set_list))))
        (pss_one (ps_if (PW.pt (pw_and (pt_cmpR op_lt (pe_callB (call_max2 rfl) (by rfl) T.max (by decide +kernel) (pa_cons (pv 7) (pa_cons (pv 8) pa_nil))) (pe_callB call_len_seq (by rfl) T.len PySem.boot_len (pa_cons (pv 4) pa_nil)) (nomark _)) (pw_and (pt_cmpR op_ne (pv 7) (pv 8) (nomark _)) (pw_and1 (pt_cmpR op_eq (pv 6) pe_int (nomark _))))))
          (pss_one (ps_asg (pe_tup (pa_cons (pe_ix ix_list (pv 4) (pv 8) (fun _ _ => rfl)) (pa_cons (pe_ix ix_list (pv 4) (pv 7) (fun _ _ => rfl)) pa_nil))) (pg_tup rfl (pgs_cons (pg_sub (pv 4) (pv 7) set_list) (pgs_cons (pg_sub (pv 4) (pv 8) set_list) pgs_nil)))))
        (pss_one (ps_if (PW.pt (pw_and (pt_cmpR op_lt (pe_callB (call_max2 rfl) (by rfl) T.max (by decide +kernel) (pa_cons (pv 7) (pa_cons (pv 8) pa_nil))) (pe_callB call_len_seq (by rfl) T.len PySem.boot_len (pa_cons (pv 4) pa_nil)) (nomark _)) (pw_and1 (pt_cmpR op_ne (pv 7) (pv 8) (nomark _)))))
          (pss_one (ps_asg (pe_c CM (hr.mono (by decide)) (by rfl) (pa_cons (pe_lst (pa_cons (pe_tup (pa_cons pe_int pa_nil)) (pa_cons (pe_c CS (hr.mono (by decide)) (by rfl) (pa_cons (pv 0) (pa_cons (pv 3) (pa_cons pe_int pa_nil)))) pa_nil)))
            (pa_cons (pe_lst (pa_cons (pe_ix ix_list (pv 4) (pv 7) (fun _ _ => rfl)) (pa_cons (pe_ix ix_list (pv 4) (pv 8) (fun _ _ => rfl)) pa_nil))) (pa_cons (pv 2) (pa_cons (pv 3) pa_nil))))) (pg_sub (pv 4) (pv 7) set_list))) pss_nil)))))))))))
      )
      (pss_one (ps_ret (pe_ifExp (pt_val (pe_callB (cr_all rfl) (by rfl) T.all (by decide +kernel) (pa_cons
          (pe_lc (own := [("_law_row", 10)]) (g := gName 10) (tt := tYes) (te := tShort1 K 10 11) (by rfl) scStirred.nd (pi_list (pv 4)) (blkOk_by (own := [("_law_row", 10)]) (N := ["_law_bag_here", "_law_rows_here", "_law_width", "_law_p", "_law_found", "_law_step", "_law_kind", "_law_k", "_law_j", "_law_number", "_law_row", "_law_one"]) (sc := defScope sStirred) (by decide +kernel))
            (fun _ _ _ _ _ => pg_name (i := 10) scStirred.nd rfl (Or.inl rfl)) (fun _ _ _ _ _ => pts_nil)
            (fun _ _ _ _ _ => pe_callB (cr_all rfl) (by rfl) T.all (by decide +kernel) (pa_cons
              (pe_lc (own := [("_law_one", 11)]) (g := gName 11) (tt := tYes) (te := tLen13 K 11) (by rfl) scStirred.nd (pi_tup (pv 10)) (blkOk_by (own := [("_law_one", 11)]) (N := ["_law_bag_here", "_law_rows_here", "_law_width", "_law_p", "_law_found", "_law_step", "_law_kind", "_law_k", "_law_j", "_law_number", "_law_row", "_law_one"]) (by rfl))
                (fun _ _ _ _ _ => pg_name (i := 11) scStirred.nd rfl (Or.inl rfl)) (fun _ _ _ _ _ => pts_nil) (fun _ _ _ _ _ => pe_cmpR op_lt (pe_callB call_len_seq (by rfl) T.len PySem.boot_len (pa_cons (pv 11) pa_nil)) pe_int (nomark _))) pa_nil))) pa_nil))) (pv 4) (pe_callTy call_list_of (by rfl) T.list (by decide +kernel) (pa_cons (pv 1) pa_nil)))))), ?_⟩
    refine ⟨_, rfl, a, va, rfl, .inl (SqL.of ha), fun L hL => ?_⟩
    have nL := hb.fresh hL
    have naL : a ≠ L := ne_of_none ha hL
    have g0 : BagAt (upd H L (.lst va)) b l := hb.new hL
    refine ⟨_, rfl, b, l, 7, rfl, g0, by decide, by decide, fun H1 r s1 g1 r0 r1 => ⟨_, rfl, by omega, by omega, ?_⟩⟩
    have sm1 : SameB b H H1 := (SameB.of (same_new hL)).trans s1
    have eL1 : H1 L = some (.lst va) := s1 _ _ nL.1.symm upd_same
    have hva1 : All2 (RowAt H1) va rows0 := hva.mono fun _ _ x => (x.keep (keeps_new hL)).keep (s1.keeps g0)
    refine for_range (lo := 0) (n := r.toNat) (fun i σ H' => SameB b H H' ∧ BagAt H' b l ∧ ∃ vs rows v5 v6 v7 v8 v9, σ = [some (.ref b), some (.ref a), some (.int (n : Nat)), some (.int p), some (.ref L), v5, v6, v7, v8, v9, none, none] ∧ H' L = some (.lst vs) ∧ All2 (RowAt H') vs rows ∧ StirI p n rows0 i rows)
      ⟨sm1, g1, va, rows0, none, none, none, none, none, rfl, eL1, hva1, ⟨by omega, fun r hr => hok r hr, .refl⟩⟩ ?_ ?_
    · rintro i σ H' hi ⟨sm, g, vs, rows, v5, v6, v7, v8, v9, rfl, eL, hrows, S⟩
      have vl := hrows.len
      have few := S.few
      have hi7 : i < 7 := by omega
      refine ⟨_, rfl, b, l, 5, rfl, g, by decide, by decide, fun H2 kind s2 g2 _ _ => ?_⟩
      have eL2 := s2 _ _ nL.1.symm eL
      refine ⟨_, rfl, _, rfl, L, _, rfl, .inl (SqL.of eL2), _, _, rfl, rfl, b, l, _, rfl, g2, by omega, by omega, fun H3 kk s3 g3 kk0 kk1 => ?_⟩
      have eL3 := s3 _ _ nL.1.symm eL2
      refine ⟨_, rfl, _, rfl, L, _, rfl, .inl (SqL.of eL3), _, _, rfl, rfl, b, l, _, rfl, g3, by omega, by omega, fun H4 jj s4 g4 jj0 jj1 => ⟨_, _, _, rfl, ?_⟩⟩
      have eL4 := s4 _ _ nL.1.symm eL3
      have k4 : Keeps H' H4 := ((s2.keeps g).trans (s3.keeps g2)).trans (s4.keeps g3)
      have hrows4 := hrows.mono fun _ _ x => RowAt.keep x k4
      have sm4 : SameB b H H4 := ((sm.trans s2).trans s3).trans s4
      obtain ⟨k, rfl⟩ : ∃ k : Nat, kk = (k : Nat) := ⟨kk.toNat, by omega⟩
      obtain ⟨j, rfl⟩ : ∃ j : Nat, jj = (j : Nat) := ⟨jj.toNat, by omega⟩
      clear s2 s3 s4 g2 g3 eL2 eL3 eL hrows k4 g sm
      have same := S.same
      -- kind == 0
      refine nx_in (tIfS_in (tAnd_dec (decide (kind = 0)) (decide (vs.length < 9)) (fun Q' q' => ⟨_, rfl, rfl, _, decV _ _, q'⟩) (fun Q' q' => ⟨_, rfl, L, _, rfl, .inl (SqL.of eL4), _, _, rfl, rfl, decide (vs.length < 9), congrArg V.bl (decide_eq_decide.mpr (by omega)), q'⟩) ?_))
      cases h0 : (decide (kind = 0) && decide (vs.length < 9)) with
      | true =>
        have h9 : vs.length < 9 := of_decide_eq_true (Bool.and_eq_true_iff.mp h0).2
        refine iteT ?_
        refine ⟨_, rfl, .inl ⟨rfl, _, SqL.of eL4⟩, _, rfl, Nat.zero_le _, fun t1 ht1 => ⟨(by show 1 ≤ sizeLine; decide), fun t2 ht2 => ?_⟩⟩
        have q1 := same_new (o := .tup []) ht1
        have q2 := q1.trans (same_new (o := .tup [.ref t1]) ht2)
        have e1 : (upd (upd H4 t1 (.tup [])) t2 (.tup [.ref t1])) t1 = some (.tup []) := by rw [upd_ne (ne_of_none upd_same ht2), upd_same]
        -- from the new row on
        have fin : ∀ (H5 : Hp) (v : V), Same H4 H5 → RowAt H5 v (List.replicate n []) →
            (SameB b H (upd H5 L (.lst (vs.take k ++ [v] ++ vs.drop k))) ∧ BagAt (upd H5 L (.lst (vs.take k ++ [v] ++ vs.drop k))) b l ∧ (upd H5 L (.lst (vs.take k ++ [v] ++ vs.drop k))) L = some (.lst (vs.take k ++ [v] ++ vs.drop k)) ∧
              All2 (RowAt (upd H5 L (.lst (vs.take k ++ [v] ++ vs.drop k)))) (vs.take k ++ [v] ++ vs.drop k) (rows.take k ++ [List.replicate n []] ++ rows.drop k)) := by
          intro H5 v q5 hv
          have k5 : Keeps H5 (upd H5 L (.lst (vs.take k ++ [v] ++ vs.drop k))) := keeps_lst (q5 _ _ eL4)
          have hr5 := hrows4.mono fun _ _ x => (RowAt.keep x (.of q5)).keep k5
          exact ⟨SameB.new hL (sm4.trans (SameB.of q5)), (g4.same q5).write nL, upd_same, ((hr5.take k).snoc (hv.keep k5)).app (hr5.drop k)⟩
        have S2 : StirI p n rows0 (i + 1) (rows.take k ++ [List.replicate n []] ++ rows.drop k) := S.ins (by omega) (nils_ok p n) (fun z hz => by rw [List.eq_of_mem_replicate hz]; exact Nat.zero_le _) (.zero fun m => .of_eq (nils_co n m))
        refine ⟨_, rfl, t2, _, [.ref t1], rfl, rfl, SqT.of upd_same, by simp, by omega, by omega, (by show 1 ≤ 1000; decide), fun en => ?_, fun en pt hpt => ?_⟩
        · have en' : n = 1 := by omega
          obtain ⟨f1, f2, f3, f4⟩ := fin _ (.ref t2) q2 ⟨t2, [.ref t1], rfl, upd_same, by rw [en']; exact ⟨⟨t1, rfl, e1⟩, trivial⟩⟩
          exact ⟨L, vs, _, _, rfl, rfl, q2 _ _ eL4, small1000 (by omega), by omega, by omega, f1, f2, _, _, _, _, _, _, _, rfl, f3, f4, S2⟩
        · have q3 := q2.trans (same_new (o := .tup (List.replicate ((n : Nat) : Int).toNat [V.ref t1]).flatten) hpt)
          have e2 : ((n : Nat) : Int).toNat = n := by omega
          rw [e2, rep_flatV] at *
          have kk3 : Keeps (upd (upd H4 t1 (.tup [])) t2 (.tup [.ref t1])) (upd (upd (upd H4 t1 (.tup [])) t2 (.tup [.ref t1])) pt (.tup (List.replicate n (V.ref t1)))) := keeps_new hpt
          obtain ⟨f1, f2, f3, f4⟩ := fin _ (.ref pt) q3 ⟨pt, _, rfl, upd_same, rep_all2 ⟨t1, rfl, kk3 _ _ e1⟩ n⟩
          exact ⟨L, vs, _, _, rfl, rfl, q3 _ _ eL4, small1000 (by omega), by omega, by omega, f1, f2, _, _, _, _, _, _, _, rfl, f3, f4, S2⟩
      | false =>
      refine iteF ?_
      clear h0
      -- kind == 1
      refine tIfS_in (tAnd_dec (decide (kind = 1)) (decide (vs.length < 9)) (fun Q' q' => ⟨_, rfl, rfl, _, decV _ _, q'⟩) (fun Q' q' => ⟨_, rfl, L, _, rfl, .inl (SqL.of eL4), _, _, rfl, rfl, decide (vs.length < 9), congrArg V.bl (decide_eq_decide.mpr (by omega)), q'⟩) ?_)
      cases h0 : (decide (kind = 1) && decide (vs.length < 9)) with
      | true =>
        have h9 : vs.length < 9 := of_decide_eq_true (Bool.and_eq_true_iff.mp h0).2
        refine iteT ?_
        refine ⟨_, rfl, .inl ⟨rfl, _, SqL.of eL4⟩, _, rfl, tCons_in (tCall_in (tCons_in ?_))⟩
        refine read_sums (l := l) (i := 10) (j := 4) (pj := 3) (by rfl) (by rfl) (by decide) (by rfl) (by decide) eL4 nL.1.symm g4 hp (by omega) fun H5 L2 vb bs s5 g5 hL2 eL5 hbs hbl hcan => ?_
        have eL6 := s5 _ _ nL.1.symm eL4
        have k5 : Keeps H4 H5 := s5.keeps g4
        have hrows5 := hrows4.mono fun _ _ x => RowAt.keep x k5
        refine ⟨_, rfl, _, rfl, _, rfl, L2, L, n, 5 + 2 * i, p, bs, rows, vb, vs, rfl, SqL.of eL5, hbs, SqL.of eL6, hrows5, by omega, hp, hcan, S.ok, hn0, by omega, by omega, fun H6 v row s6 hv ho hs hlin => ?_⟩
        have eL7 := s6 _ _ eL6
        have k7 : Keeps H6 (upd H6 L (.lst (vs.take k ++ [v] ++ vs.drop k))) := keeps_lst eL7
        have hr7 := hrows5.mono fun _ _ x => (RowAt.keep x (.of s6)).keep k7
        have S2 : StirI p n rows0 (i + 1) (rows.take k ++ [row] ++ rows.drop k) := S.ins (by omega) ho (short_up hs (by omega)) ((lin_span bs rows fun r hr => Sl.mem hr).congr hlin)
        exact ⟨L, vs, _, _, rfl, rfl, eL7, small1000 (by omega), by omega, by omega, SameB.new hL ((sm4.trans s5).trans (SameB.of s6)), (g5.same s6).write nL, _, _, _, _, _, _, _, rfl, upd_same, ((hr7.take k).snoc (hv.keep k7)).app (hr7.drop k), S2⟩
      | false =>
      refine iteF ?_
      clear h0
      -- kind == 2
      refine tIfS_in (tAnd_dec (decide (k < vs.length)) (decide (kind = 2)) (fun Q' q' => ⟨_, rfl, _, rfl, L, _, rfl, .inl (SqL.of eL4), _, _, rfl, rfl, decide (k < vs.length), congrArg V.bl (decide_eq_decide.mpr (by omega)), q'⟩) (fun Q' q' => ⟨_, rfl, rfl, _, decV _ _, q'⟩) ?_)
      cases h0 : (decide (k < vs.length) && decide (kind = 2)) with
      | true =>
        have hk : k < vs.length := of_decide_eq_true (Bool.and_eq_true_iff.mp h0).1
        refine iteT ?_
        refine ⟨_, rfl, _, rfl, _, _, rfl, rfl, b, l, _, rfl, g4, by omega, by omega, fun H5 r s5 g5 r0 r1 => ⟨_, _, rfl, rfl, ?_⟩⟩
        have eL5 := s5 _ _ nL.1.symm eL4
        have k5 : Keeps H4 H5 := s5.keeps g4
        have hrows5 := hrows4.mono fun _ _ x => RowAt.keep x k5
        obtain ⟨row, hrow, hvk⟩ := hrows5.get (List.getElem?_eq_getElem hk)
        obtain ⟨ak, vk, evk, hak, hpk⟩ := id hvk
        have hvk0 : vs[k]? = some (.ref ak) := by rw [List.getElem?_eq_getElem hk, evk]
        have ork := S.ok row (List.mem_of_getElem? hrow)
        refine ⟨_, rfl, _, rfl, L, _, _, _, rfl, rfl, SqL.of eL5, atI_nat hvk0, ak, rfl, ⟨_, SqT.of hak⟩, fun L2 hL2 => ?_⟩
        refine lc_tup (xs := vk) (fun m H6 => Same H5 H6 ∧ m ≤ n ∧ Acc H6 L2 (fun e z => Canon p z ∧ z.length ≤ (row.getD e []).length ∧ ∀ t, Cg p (cf z t) (cf (row.getD e []) t * (1 + r))) m) ⟨same_new hL2, Nat.zero_le _, Acc.start⟩ (fun m H6 _ h => SqT.of (h.1 _ _ hak)) ?_ ?_
        · rintro m x H6 hx ⟨s6, hm, A1⟩
          obtain ⟨z1, hz1, px⟩ := hpk.get hx
          have ez : row.getD m [] = z1 := by rw [List.getD_eq_getElem?_getD, hz1]; rfl
          have hmn : m < n := by
            have := (List.getElem?_eq_some_iff.mp hz1).1
            have := ork.1.len
            omega
          have l1 := short_at ork.2 m
          rw [ez] at l1
          refine ⟨rfl, ?_⟩
          refine ⟨_, rfl, _, rfl, _, rfl, x, 1 + r, p, z1, rfl, px.keep (.of s6), by omega, by omega, by omega, by omega, fun H7 v z s7 hv hc hl hcf => ?_⟩
          obtain ⟨acc, ea, la, A2⟩ := A1.snoc s7 hv (by rw [ez]; exact ⟨hc, hl, hcf⟩)
          exact ⟨acc, ea, small1000 (by omega), same_upd2 hL2 (s6.trans s7), hmn, A2⟩
        · rintro H6 ⟨s6, hm, A1⟩
          rw [hpk.len, ork.1.len] at A1
          obtain ⟨vs1, row', eL7, z, hl7, f7⟩ := A1.done
          refine ⟨L2, vs1, rfl, .inl ⟨SqL.of eL7, fun t ht => ?_⟩⟩
          have s8 := s6.trans (same_new (o := .tup vs1) ht)
          have eL8 := s8 _ _ eL5
          have hv8 : RowAt (upd H6 t (.tup vs1)) (.ref t) row' := ⟨t, vs1, rfl, upd_same, z.mono fun _ _ x => PolyAt.keep x (keeps_new ht)⟩
          have k9 : Keeps (upd H6 t (.tup vs1)) (upd (upd H6 t (.tup vs1)) L (.lst (vs.set k (.ref t)))) := keeps_lst eL8
          have hr9 := hrows5.mono fun _ _ x => (RowAt.keep x (.of s8)).keep k9
          have o9 : RowOk p n row' := .of_at hl7 fun e he => (f7 e he).1
          have S2 : StirI p n rows0 (i + 1) (rows.set k row') := S.set o9 (.of_at hl7 fun e he => by
            have := (f7 e he).2.1
            have := short_at ork.2 e
            omega) (stir_scale hp S.eqv hrow (by omega) (by omega) (scaled_row hn0 fun e he => (f7 e he).2.2))
          exact ⟨_, rfl, _, rfl, L, vs, _, k, rfl, rfl, eL8, ixN_nat hk, SameB.new hL ((sm4.trans s5).trans (SameB.of s8)), (g5.same s8).write nL, _, _, _, _, _, _, _, rfl, upd_same, hr9.set k (hv8.keep k9), S2⟩
      | false =>
      refine iteF ?_
      clear h0
      have emax : (if ((j : Nat) : Int) > ((k : Nat) : Int) then ((j : Nat) : Int) else ((k : Nat) : Int)) = ((max k j : Nat) : Int) := by split <;> omega
      -- kind == 3
      refine tIfS_in (tAnd_dec (decide (max k j < vs.length)) (!decide (k = j) && decide (kind = 3)) (fun Q' q' => ⟨_, rfl, _, rfl, _, _, rfl, _, rfl, L, _, rfl, .inl (SqL.of eL4), _, _, rfl, rfl, decide (max k j < vs.length), congrArg V.bl (decide_eq_decide.mpr (by rw [emax]; omega)), q'⟩)
        (fun Q' q' => tAnd_dec (!decide (k = j)) (decide (kind = 3)) (fun Q2 q2 => ⟨_, rfl, _, rfl, rfl, !decide (k = j), (decVn _ _).trans (congrArg (fun z => V.bl (!z)) (decide_eq_decide.mpr (by omega))), q2⟩) (fun Q2 q2 => ⟨_, rfl, rfl, _, decV _ _, q2⟩) q') ?_)
      cases h0 : (decide (max k j < vs.length) && (!decide (k = j) && decide (kind = 3))) with
      | true =>
        have hm : max k j < vs.length := of_decide_eq_true (Bool.and_eq_true_iff.mp h0).1
        have hkj : k ≠ j := by
          have := (Bool.and_eq_true_iff.mp (Bool.and_eq_true_iff.mp h0).2).1
          simpa using this
        have hk : k < vs.length := by omega
        have hj : j < vs.length := by omega
        obtain ⟨rk0, hrk, hvk⟩ := hrows4.get (List.getElem?_eq_getElem hk)
        obtain ⟨rj0, hrj, hvj⟩ := hrows4.get (List.getElem?_eq_getElem hj)
        refine iteT ?_
        refine ⟨_, rfl, _, rfl, L, _, _, _, rfl, rfl, SqL.of eL4, atI_nat (List.getElem?_eq_getElem hj), _, rfl, _, rfl, L, _, _, _, rfl, rfl, SqL.of eL4, atI_nat (List.getElem?_eq_getElem hk), (by show 2 ≤ sizeLine; decide), fun pt hpt => ?_⟩
        have t5 := same_new (o := .tup [vs[j], vs[k]]) hpt
        have eL5 := t5 _ _ eL4
        refine ⟨pt, _, rfl, SqT.of upd_same, rfl, _, _, rfl, _, rfl, _, rfl, L, vs, _, k, rfl, rfl, eL5, ixN_nat hk, _, _, rfl, _, rfl, _, rfl, L, _, _, j, rfl, rfl, upd_same, ixN_nat (by rw [List.length_set]; exact hj), rfl, ?_⟩
        have k6 : Keeps (upd H4 pt (.tup [vs[j], vs[k]])) (upd (upd (upd H4 pt (.tup [vs[j], vs[k]])) L (.lst (vs.set k vs[j]))) L (.lst ((vs.set k vs[j]).set j vs[k]))) := by
          rw [upd_upd]
          exact keeps_lst eL5
        have hr6 := hrows4.mono fun _ _ x => (RowAt.keep x (.of t5)).keep k6
        exact ⟨SameB.new hL (SameB.new hL (sm4.trans (SameB.of t5))), ((g4.same t5).write nL).write nL, _, _, _, _, _, _, _, rfl, upd_same, (hr6.set k ((hvj.keep (.of t5)).keep k6)).set j ((hvk.keep (.of t5)).keep k6), S.swap hrk hrj hkj⟩
      | false =>
      refine iteF ?_
      clear h0
      refine tIfS_in (tAnd_dec (decide (max k j < vs.length)) (!decide (k = j)) (fun Q' q' => ⟨_, rfl, _, rfl, _, _, rfl, _, rfl, L, _, rfl, .inl (SqL.of eL4), _, _, rfl, rfl, decide (max k j < vs.length), congrArg V.bl (decide_eq_decide.mpr (by rw [emax]; omega)), q'⟩)
        (fun Q2 q2 => ⟨_, rfl, _, rfl, rfl, !decide (k = j), (decVn _ _).trans (congrArg (fun z => V.bl (!z)) (decide_eq_decide.mpr (by omega))), q2⟩) ?_)
      cases h0 : (decide (max k j < vs.length) && !decide (k = j)) with
      | true =>
        have hm : max k j < vs.length := of_decide_eq_true (Bool.and_eq_true_iff.mp h0).1
        have hkj : k ≠ j := by
          have := (Bool.and_eq_true_iff.mp h0).2
          simpa using this
        have hk : k < vs.length := by omega
        have hj : j < vs.length := by omega
        obtain ⟨rk0, hrk, hvk⟩ := hrows4.get (List.getElem?_eq_getElem hk)
        obtain ⟨rj0, hrj, hvj⟩ := hrows4.get (List.getElem?_eq_getElem hj)
        have ork := S.ok rk0 (List.mem_of_getElem? hrk)
        have orj := S.ok rj0 (List.mem_of_getElem? hrj)
        refine iteT ?_
        refine ⟨(by show 1 ≤ sizeLine; decide), fun t1 ht1 => ?_⟩
        have u1 := same_new (o := .tup [.int 1]) ht1
        have e1 : (upd H4 t1 (.tup [.int 1])) t1 = some (.tup [.int 1]) := upd_same
        have g5 := g4.new (o := .tup [.int 1]) ht1
        have eL5 := u1 _ _ eL4
        have k5 : Keeps H4 (upd H4 t1 (.tup [.int 1])) := keeps_new ht1
        have sm5 : SameB b H (upd H4 t1 (.tup [.int 1])) := sm4.trans (SameB.of u1)
        generalize upd H4 t1 (.tup [.int 1]) = H5 at u1 e1 g5 eL5 k5 sm5
        refine ⟨_, rfl, _, rfl, b, l, p, 2, rfl, g5, hp, by decide, by decide, fun H6 v z s6 g6 hv hc hl => ?_⟩
        have k6 : Keeps H5 H6 := s6.keeps g5
        have eL6 := s6 _ _ nL.1.symm eL5
        refine ⟨(by show 2 ≤ sizeLine; decide), fun La hLa => ?_⟩
        have u7 := same_new (o := .lst [.ref t1, v]) hLa
        have eLa : (upd H6 La (.lst [.ref t1, v])) La = some (.lst [.ref t1, v]) := upd_same
        have eL7 := u7 _ _ eL6
        have sm7 : SameB b H (upd H6 La (.lst [.ref t1, v])) := (sm5.trans s6).trans (SameB.of u7)
        have g7 := g6.same u7
        have kk7 : Keeps H6 (upd H6 La (.lst [.ref t1, v])) := .of u7
        generalize upd H6 La (.lst [.ref t1, v]) = H7 at u7 eLa eL7 sm7 g7 kk7
        refine ⟨_, rfl, _, rfl, L, _, _, _, rfl, rfl, SqL.of eL7, atI_nat (List.getElem?_eq_getElem hk), _, rfl, _, rfl, L, _, _, _, rfl, rfl, SqL.of eL7, atI_nat (List.getElem?_eq_getElem hj), (by show 2 ≤ sizeLine; decide), fun Lb hLb => ?_⟩
        have u8 := same_new (o := .lst [vs[k], vs[j]]) hLb
        have eLb : (upd H7 Lb (.lst [vs[k], vs[j]])) Lb = some (.lst [vs[k], vs[j]]) := upd_same
        have eLa8 := u8 _ _ eLa
        have eL8 := u8 _ _ eL7
        have sm8 : SameB b H (upd H7 Lb (.lst [vs[k], vs[j]])) := sm7.trans (SameB.of u8)
        have g8 := g7.same u8
        have k8 : Keeps H4 (upd H7 Lb (.lst [vs[k], vs[j]])) := ((k5.trans k6).trans kk7).trans (.of u8)
        have k68 : Keeps H6 (upd H7 Lb (.lst [vs[k], vs[j]])) := kk7.trans (.of u8)
        have e18 : (upd H7 Lb (.lst [vs[k], vs[j]])) t1 = some (.tup [.int 1]) := k68 _ _ (k6 _ _ e1)
        generalize upd H7 Lb (.lst [vs[k], vs[j]]) = H8 at u8 eLb eLa8 eL8 sm8 g8 k8 k68 e18
        refine ⟨_, rfl, _, rfl, La, Lb, n, 5 + 2 * i, p, [[1], z], [rk0, rj0], _, _, rfl, SqL.of eLa8, ⟨⟨t1, rfl, e18⟩, hv.keep k68, trivial⟩, SqL.of eLb, ⟨hvk.keep k8, hvj.keep k8, trivial⟩, rfl, hp, ?_, ?_, hn0, by omega, by omega, fun H9 v9 row s9 hv9 ho hs hlin => ?_⟩
        · intro x hx
          simp only [List.mem_cons, List.not_mem_nil, or_false] at hx
          rcases hx with rfl | rfl
          · exact ⟨canon_one p2.1, by decide⟩
          · exact ⟨hc, hl⟩
        · intro x hx
          simp only [List.mem_cons, List.not_mem_nil, or_false] at hx
          rcases hx with rfl | rfl
          · exact ork
          · exact orj
        have eL9 := s9 _ _ eL8
        have k9 : Keeps H9 (upd H9 L (.lst (vs.set k v9))) := keeps_lst eL9
        have hr9 := hrows4.mono fun _ _ x => ((RowAt.keep x k8).keep (.of s9)).keep k9
        have S2 : StirI p n rows0 (i + 1) (rows.set k row) := S.set ho (short_up hs (by omega)) (stir_add (d := cvt z (co n rj0) n z.length) S.eqv hrk hrj hkj (cvt_span z (Sl.mem (List.mem_singleton.mpr rfl)) _) fun m => (hlin m).trans (.of_eq (by
          show cvt [1] (co n rk0) n 1 m + (cvt z (co n rj0) n z.length m + 0) = _
          rw [cvt_one, Int.add_zero])))
        exact ⟨_, rfl, _, rfl, L, vs, _, k, rfl, rfl, eL9, ixN_nat hk, SameB.new hL (sm8.trans (SameB.of s9)), (g8.same s9).write nL, _, _, _, _, _, _, _, rfl, upd_same, hr9.set k (hv9.keep k9), S2⟩
      | false =>
      refine iteF ?_
      exact ⟨sm4, g4, vs, rows, _, _, _, _, _, rfl, eL4, hrows4, same⟩
    · rintro σ H' ⟨sm, g, vs, rows, v5, v6, v7, v8, v9, rfl, eL, hrows, S⟩
      have vl := hrows.len
      have few := S.few
      refine nx_in (tRet_in (tIf_in (tB_in ?_)))
      refine read_short (a := L) (by rfl) (by show 10 < 12; decide) (by show 11 < 12; decide) (SqL.of eL) hrows (by omega) (fun r hr => by rw [(S.ok r hr).1.len]; omega) fun H2 s2 => ⟨_, rfl, ?_⟩
      cases hs : rows.all isShort with
      | true =>
        refine iteT ⟨_, rfl, q H2 L vs rows (sm.trans (SameB.of s2)) (g.same s2) hL (s2 _ _ eL) (hrows.mono fun _ _ x => RowAt.keep x (.of s2)) (by omega) (fun r hr => ⟨(S.ok r hr).1, isShort_of (List.all_eq_true.mp hs r hr)⟩) S.eqv⟩
      | false =>
        have sm2 := sm.trans (SameB.of s2)
        have g2 := g.same s2
        refine iteF ⟨_, rfl, a, va, rfl, .inl (SqL.of (sm2 _ _ nab ha)), fun L2 hL2 => ?_⟩
        exact q _ L2 va rows0 (sm2.trans (SameB.of (same_new hL2))) (g2.new hL2) (sm2.free g2 hL2) upd_same (hva.mono fun _ _ x => (x.keep (sm2.keeps hb)).keep (keeps_new hL2)) (by omega) (fun r hr => ⟨(hok r hr).1, short_up (hok r hr).2 (by decide)⟩) .refl
end
end K8

set_option Elab.async false
set_option linter.all false
set_option maxRecDepth 100000
set_option maxHeartbeats 4000000
namespace K8
open PySem PySem.Spec PyProof.Rows L2
abbrev sLaw : Stmt := topS 51
theorem pe_told {X : Cx} {k : Nat} {sp : L2.Sp} {p pos : Pos} {e : Expr} {es : List Expr} {kws : List Keyword} {t tk : TA} (C : OkT X.prog X.w X.K X.mg X.base k sp) (hr : Room k X.A) (hg : Gl X "told") (ha : PA X (e :: es) t) (hkw : PK X kws tk)
    (hall : (backToKw pos (keywordEach kws X.env)).all (·.1.isSome) = true := by rfl) (hks : (backToKw pos (keywordEach kws X.env)).filterMap (·.1) = (["prime"] : List Str) := by rfl) (he : starEach (e :: es) X.env = (false, eval e X.env) :: starEach es X.env := by rfl)
    (hpl : ((backTo pos (starEach (e :: es) X.env)).any (·.1) || (backToKw pos (keywordEach kws X.env)).any (·.1.isNone)) = false := by rfl) :
    PE X (.Call (.Name "told" p) (e :: es) kws pos) (tCallN 2 1 sp (fun vs zs => vs ++ zs) E0 t tk) := by
  obtain ⟨f, fd, F, g, kp, b⟩ := C
  exact pe_callN F hr hg g kp b pass0 ha hkw hall hks (by decide) he hpl
/-- two led forms of one span are the same rows -/
theorem Led.one {p : Int} {n : Nat} {rows rows' : List Row} {T T' : Fnd} (hp : p ∈ PRIMES) (hn : 0 < n) (h : Led p n rows T) (h' : Led p n rows' T') (e : Eqv p n rows' rows) : rowsF T' = rowsF T := by
  have e1 : ∀ T : Fnd, rowsOf (T.map fun x => (rk n x.2 x.1, x.2)) = rowsF T := fun T => by
    unfold rowsOf rowsF
    rw [List.map_map]
    rfl
  have := Told.one hp hn h'.told h.told (by
    rw [e1, e1]
    exact h'.eqv.trans (e.trans h.eqv.symm))
  rw [← e1 T', ← e1 T, this]
theorem Led.few {p : Int} {n : Nat} {rows : List Row} {T : Fnd} (h : Led p n rows T) : T.length ≤ n := by
  have nd : (T.map (·.1)).Nodup := by
    have := h.told.sorted
    rw [List.pairwise_map] at this
    rw [List.nodup_iff_pairwise_ne, List.pairwise_map]
    refine this.imp_of_mem fun {x y} hx hy h1 => ?_
    have h' : rk n x.2 x.1 % n < rk n y.2 y.1 % n := h1
    rw [rk_mod x.2 (h.good x hx).lt, rk_mod y.2 (h.good y hy).lt] at h'
    exact Nat.ne_of_lt h'
  have := pigeon n (T.map (·.1)) nd fun x hx => by
    obtain ⟨y, hy, rfl⟩ := List.mem_map.mp hx
    exact (h.good y hy).lt
  rwa [List.length_map] at this
theorem good_of {p : Int} {n : Nat} {r : Row} (h : RowOk p n r ∧ Short 5 r) : Good p n r := ⟨h.1, short_up h.2 (by decide)⟩
section
variable {P : Program} {w : World} {K : PySem.W.Frag} {mg : Str → Option Value} {base : Heap}
theorem scLaw : FnScope ["_law_script", "_law_bag_here", "_law_again", "_law_p", "_law_width", "_law_rows_here", "_law_due", "_law_other", "_law_row", "_law_one"] ["_law_script"] (defScope sLaw) := ⟨rfl, rfl, rfl, by decide +kernel, rfl, by decide +kernel, by decide +kernel⟩
def spLaw (K : PySem.W.Frag) : L2.Sp := fun vs H Q _ => ∃ (a : Addr) (ns : List Int), vs = [.ref a] ∧ SqL K H a (ns.map V.int) ∧ ns.length ≤ 63 ∧ ∀ H', Q (.bl true) H'
theorem ok_law {f : Addr} {fd : FuncData} (F : Fun K "law" "law" sLaw f fd) (T : Blt mg) (CB : Ok P w K mg base 1 "_law_bag" ["_law_script"] (spBag K)) (CP : Ok P w K mg base 1 "_law_pull" ["_law_bag_here", "_law_many"] spPull)
    (CL : Ok P w K mg base 3 "_law_prime" ["_law_bag_here"] spLPrime) (CR : Ok P w K mg base 5 "_law_rows" ["_law_bag_here", "_law_p", "_law_width", "_law_most"] spLRows)
    (CS : Ok P w K mg base 4 "_law_stirred" ["_law_bag_here", "_law_rows_here", "_law_width", "_law_p"] spStirred) (CT : OkT P w K mg base 7 (spToldRows K)) : FnOk P w K mg base CX0 8 f fd ["_law_script"] (spLaw K) := by
  refine F.ok scLaw (fun vs H Q E h => ?_) (fun cdv A outer s H vs Q E hr h => ?_)
  · obtain ⟨a, ns, rfl, _⟩ := h
    rfl
  · obtain ⟨a, ns, rfl, ha, hns, q⟩ := h
    refine ⟨_, pss_cons (ps_set (i := 1) scLaw.nd rfl (.inl rfl) (pe_c CB (hr.mono (by decide)) (by rfl) (pa_cons (pv 0) pa_nil)))
      (pss_cons (ps_for PassesOwn.never rfl (pi_range1 rfl T.range (pa_cons pe_int pa_nil)) (pg_name (i := 2) scLaw.nd rfl (.inl rfl))
        (pss_cons (ps_par (i := 3) (j := 4) rfl scLaw.nd rfl rfl (by decide) rfl rfl (pa_cons (pe_c CL (hr.mono (by decide)) (by rfl) (pa_cons (pv 1) pa_nil)) (pa_cons (pe_op op_add pe_int (pe_c CP (hr.mono (by decide)) (by rfl) (pa_cons (pv 1) (pa_cons pe_int pa_nil)))) pa_nil)) (by rfl))
        (pss_cons (ps_set (i := 5) scLaw.nd rfl (.inl rfl) (pe_c CR (hr.mono (by decide)) (by rfl) (pa_cons (pv 1) (pa_cons (pv 3) (pa_cons (pv 4) (pa_cons pe_int pa_nil))))))
        (pss_cons (ps_set (i := 6) scLaw.nd rfl (.inl rfl) (pe_told CT hr (by rfl) (pa_cons (pv 5) (pa_cons (pv 4) pa_nil)) (pk_cons (pv 3) pk_nil)))
        (pss_cons (ps_set (i := 7) scLaw.nd rfl (.inl rfl) (pe_c CS (hr.mono (by decide)) (by rfl) (pa_cons (pv 1) (pa_cons (pv 5) (pa_cons (pv 4) (pa_cons (pv 3) pa_nil))))))
        (pss_cons (ps_if (PW.pt (pw_or (pt_cmpR (op_neD hr.units) (pe_told CT hr (by rfl) (pa_cons (pv 7) (pa_cons (pv 4) pa_nil)) (pk_cons (pv 3) pk_nil)) (pv 6) (nomark _))
            (pw_or1 (pt_cmpR (op_neD hr.units) (pe_told CT hr (by rfl) (pa_cons (pe_callTy call_tuple_of (by rfl) T.tuple (by decide +kernel) (pa_cons (pv 7) pa_nil)) (pa_cons (pv 4) pa_nil)) (pk_cons (pv 3) pk_nil)) (pv 6) (nomark _))))) (pss_one ps_never) pss_nil)
        (pss_one (ps_if (PW.pt (pw_and (pt_val (pe_callB (cr_all rfl) (by rfl) T.all (by decide +kernel) (pa_cons
          (pe_lc (own := [("_law_row", 8)]) (g := gName 8) (tt := tYes) (te := tShort1 K 8 9) (by rfl) scLaw.nd (pi_list (pv 6)) (blkOk_by (own := [("_law_row", 8)]) (N := ["_law_script", "_law_bag_here", "_law_again", "_law_p", "_law_width", "_law_rows_here", "_law_due", "_law_other", "_law_row", "_law_one"]) (sc := defScope sLaw) (by decide +kernel))
            (fun _ _ _ _ _ => pg_name (i := 8) scLaw.nd rfl (Or.inl rfl)) (fun _ _ _ _ _ => pts_nil)
            (fun _ _ _ _ _ => pe_callB (cr_all rfl) (by rfl) T.all (by decide +kernel) (pa_cons
              (pe_lc (own := [("_law_one", 9)]) (g := gName 9) (tt := tYes) (te := tLen13 K 9) (by rfl) scLaw.nd (pi_tup (pv 8)) (blkOk_by (own := [("_law_one", 9)]) (N := ["_law_script", "_law_bag_here", "_law_again", "_law_p", "_law_width", "_law_rows_here", "_law_due", "_law_other", "_law_row", "_law_one"]) (by rfl))
                (fun _ _ _ _ _ => pg_name (i := 9) scLaw.nd rfl (Or.inl rfl)) (fun _ _ _ _ _ => pts_nil) (fun _ _ _ _ _ => pe_cmpR op_lt (pe_callB call_len_seq (by rfl) T.len PySem.boot_len (pa_cons (pv 9) pa_nil)) pe_int (nomark _))) pa_nil))) pa_nil)))
          (pw_and1 (pt_cmpR (op_neD hr.units) (pe_told CT hr (by rfl) (pa_cons (pv 6) (pa_cons (pv 4) pa_nil)) (pk_cons (pv 3) pk_nil)) (pv 6) (nomark _))))) (pss_one ps_never) pss_nil))))))))
      (pss_one (ps_ret pe_bl))), ?_⟩
    refine ⟨_, rfl, a, ns, rfl, ha, hns, fun H1 b l s1 hb0 g1 => ?_⟩
    refine ⟨3, rfl, by decide, by decide, ?_⟩
    refine for_range (lo := 0) (n := (3 : Int).toNat) (fun i σ H' => BagAt H' b l ∧ ∃ v2 v3 v4 v5 v6 v7, σ = [some (.ref a), some (.ref b), v2, v3, v4, v5, v6, v7, none, none]) ⟨g1, none, none, none, none, none, none, rfl⟩ ?_ ?_
    · rintro i σ H' hi ⟨g, v2, v3, v4, v5, v6, v7, rfl⟩
      -- the prime and the width
      refine ⟨_, rfl, b, l, rfl, g, fun H2 p s2 g2 hp => ?_⟩
      have p2 := prime_pos hp
      refine ⟨_, rfl, b, l, 4, rfl, g2, by decide, by decide, fun H3 r s3 g3 r0 r1 => ⟨_, _, rfl, rfl, _, _, rfl, ?_⟩⟩
      obtain ⟨n, hn⟩ : ∃ n : Nat, 1 + r = (n : Nat) := ⟨(1 + r).toNat, by omega⟩
      have hn0 : 0 < n := by omega
      have hn4 : n ≤ 4 := by omega
      show Ends.nx _ ((List.set (List.set _ 3 (some (V.int p))) 4 (some (V.int (1 + r))))) H3
      rw [hn]
      -- the rows
      refine ⟨_, rfl, _, rfl, _, rfl, b, l, p, n, rfl, g3, hp, hn0, by omega, fun H4 L vs rows s4 g4 hL eL hrows hlen hok => ?_⟩
      have nL : L ≠ b := fun e => by
        subst e
        obtain ⟨xs, e⟩ := g3.list
        rw [hL] at e
        cases e
      -- due
      refine ⟨_, rfl, _, rfl, _, rfl, rfl, rfl, .ref L, n, p, rows, rfl, ⟨L, vs, rfl, .inl (SqL.of eL), hrows⟩, hp, hn0, by omega, by omega, fun r hr => good_of (hok r hr), fun H5 Ld T1 vd s5 hLd eLd hd led1 => ?_⟩
      have g5 := g4.same s5
      have nLd : Ld ≠ b := (g4.fresh hLd).1.symm
      -- other
      refine ⟨_, rfl, _, rfl, _, rfl, _, rfl, b, l, L, n, p, vs, rows, rfl, g5, s5 _ _ eL, nL, hrows.mono fun _ _ x => RowAt.keep x (.of s5), hp, hn0, by omega, by omega, hok, fun H6 L6 vs6 rows6 s6 g6 hL6 eL6 hrows6 hlen6 hok6 eqv6 => ?_⟩
      have k6 : Keeps H5 H6 := s6.keeps g5
      have eLd6 := s6 _ _ nLd eLd
      have hd6 := hd.mono fun _ _ x => RowAt.keep x k6
      -- told(other) != due
      refine ⟨_, rfl, _, rfl, _, rfl, rfl, rfl, .ref L6, n, p, rows6, rfl, ⟨L6, vs6, rfl, .inl (SqL.of eL6), hrows6⟩, hp, hn0, by omega, hlen6, hok6, fun H7 L7 T2 v7 s7 hL7 eL7 h7 led2 => ?_⟩
      have e2 : rowsF T2 = rowsF T1 := Led.one hp hn0 led1 led2 eqv6
      have hd7 := hd6.mono fun _ _ x => RowAt.keep x (.of s7)
      refine ⟨_, rfl, rowsD (rowsF T2), rowsD (rowsF T1), rows_dp (SqL.of eL7) h7, rows_dp (SqL.of (s7 _ _ eLd6)) hd7, rowsD_sh _, rowsD_sh _, false, ?_, ?_⟩
      · rw [rowsD_eqv, decide_eq_true e2]
        rfl
      -- told(tuple(other)) != due
      refine ⟨_, rfl, L6, _, rfl, .inl ⟨SqL.of (s7 _ _ eL6), fun t8 ht8 => ?_⟩⟩
      have u8 := same_new (o := .tup vs6) ht8
      have k68 : Keeps H6 (upd H7 t8 (.tup vs6)) := (Keeps.of s7).trans (.of u8)
      have et8 : (upd H7 t8 (.tup vs6)) t8 = some (.tup vs6) := upd_same
      have eLd8 := u8 _ _ (s7 _ _ eLd6)
      have g8 := (g6.same s7).same u8
      generalize upd H7 t8 (.tup vs6) = H8 at u8 k68 et8 eLd8 g8
      refine ⟨_, rfl, _, rfl, rfl, rfl, .ref t8, n, p, rows6, rfl, ⟨t8, vs6, rfl, .inr (SqT.of et8), hrows6.mono fun _ _ x => RowAt.keep x k68⟩, hp, hn0, by omega, hlen6, hok6, fun H9 L9 T3 v9 s9 hL9 eL9 h9 led3 => ?_⟩
      have e3 : rowsF T3 = rowsF T1 := Led.one hp hn0 led1 led3 eqv6
      have hd9 := hd6.mono fun _ _ x => (RowAt.keep x k68).keep (.of s9)
      have eLd9 := s9 _ _ eLd8
      have g9 := g8.same s9
      refine ⟨_, rfl, rowsD (rowsF T3), rowsD (rowsF T1), rows_dp (SqL.of eL9) h9, rows_dp (SqL.of eLd9) hd9, rowsD_sh _, rowsD_sh _, false, ?_, ?_⟩
      · rw [rowsD_eqv, decide_eq_true e3]
        rfl
      refine iteF (nx_in (tIfS_in ?_))
      -- told(due) != due
      have few := led1.few
      have hgood : ∀ r ∈ rowsF T1, Good p n r := fun r hr => by
        obtain ⟨x, hx, rfl⟩ := List.mem_map.mp hr
        exact (led1.good x hx).good
      have tst : ∀ {t u : TT} {σ : L2.St} {H : Hp} {Q : Bool → Hp → Prop}, t σ H (fun c H1 => if c = true then u σ H1 Q else Q false H1) → tAnd t u σ H Q := fun h => h
      refine tst (tB_in ?_)
      refine read_short (a := Ld) (by rfl) (by show 8 < 10; decide) (by show 9 < 10; decide) (SqL.of eLd9) hd9 (by rw [List.length_map]; omega) (fun r hr => by rw [(hgood r hr).ok.len]; omega) fun H10 s10 => ⟨_, rfl, ?_⟩
      have g10 := g9.same s10
      have eLd10 := s10 _ _ eLd9
      have hd10 := hd9.mono fun _ _ x => RowAt.keep x (.of s10)
      cases hs : (rowsF T1).all isShort with
      | false =>
        exact ⟨g10, _, _, _, _, _, _, rfl⟩
      | true =>
        refine iteT ?_
        refine ⟨_, rfl, _, rfl, _, rfl, rfl, rfl, .ref Ld, n, p, rowsF T1, rfl, ⟨Ld, vd, rfl, .inl (SqL.of eLd10), hd10⟩, hp, hn0, by omega, by rw [List.length_map]; omega, hgood, fun H11 L11 T4 v11 s11 hL11 eL11 h11 led4 => ?_⟩
        have e4 : rowsF T4 = rowsF T1 := Led.one hp hn0 led1 led4 led1.eqv
        refine ⟨_, rfl, rowsD (rowsF T4), rowsD (rowsF T1), rows_dp (SqL.of eL11) h11, rows_dp (SqL.of (s11 _ _ eLd10)) (hd10.mono fun _ _ x => RowAt.keep x (.of s11)), rowsD_sh _, rowsD_sh _, false, ?_, ?_⟩
        · rw [rowsD_eqv, decide_eq_true e4]
          rfl
        exact ⟨g10.same s11, _, _, _, _, _, _, rfl⟩
    · rintro σ H' ⟨g, v2, v3, v4, v5, v6, v7, rfl⟩
      exact q _
end
end K8

set_option Elab.async false
set_option linter.all false
set_option maxRecDepth 100000
set_option maxHeartbeats 4000000
namespace K8
open PySem PySem.Spec PyProof.Rows L2
/-! the defs, the built-ins and the constants as the program's top leaves them -/
/-- the machine's whole numbers are these -/
def sameInts : List Value → List Int → Bool
  | [], [] => true
  | .int i _ :: us, p :: ps => i == p && sameInts us ps
  | _, _ => false
theorem sameInts_vals : ∀ {us : List Value} {ps : List Int}, sameInts us ps = true → Vals (ps.map V.int) us
  | [], [], _ => .nil
  | .int i t :: us, p :: ps, h => by
    have h' : (i == p && sameInts us ps) = true := h
    rw [Bool.and_eq_true, beq_iff_eq] at h'
    obtain ⟨e, h'⟩ := h'
    subst e
    exact .cons ⟨t, rfl⟩ (sameInts_vals h')
theorem primes_mk {K : PySem.W.Frag} {h : Heap} {mg : Str → Option Value} {a : Addr} {o : Obj} {its : Array Value} {m : Nat} (X : K.In h) (G : h.Ns mainGlobals mg) (e : PySem.W.nsIn K mainGlobals "PRIMES" = some (some (.ref a)))
    (l : K.lookup a = some o) (c : o.cls = .type "tuple") (d : o.data = .seq its m) (s : (decide (its.size ≤ sizeLine) && sameInts its.toList PRIMES) = true) : PrimesAt K mg := by
  rw [Bool.and_eq_true, decide_eq_true_iff] at s
  exact ⟨a, PySem.W.mg_of X G e, fun _ => .inr ⟨o, its, m, l, c, d, s.1, sameInts_vals s.2⟩⟩
theorem all_mk {l : PySem.W.OpenLaw} {w : World} {K : PySem.W.Frag} {h : Heap} {mg : Str → Option Value} {fa aP : Addr} {oP : Obj} {iP : Array Value} {nP : Nat} {tPl tWi tRo : Tok} (X : K.In h) (G : h.Ns mainGlobals mg) (hfa : mg "law" = some (.ref fa))
    {f1 f2 f3 f4 f5 f6 f7 f8 f9 f10 f11 f12 f13 f14 f15 f16 f17 f18 f19 f20 f21 f22 f23 f24 f25 f26 f27 f28 f29 f30 f31 f32 f33 f34 f35 f36 f37 : Addr} {od1 an1 od2 an2 od3 an3 od4 an4 od5 an5 od6 an6 od7 an7 od8 an8 od9 an9 od10 an10 od11 an11 od12 an12 od13 an13 od14 an14 od15 an15 od16 an16 od17 an17 od18 an18 od19 an19 od20 an20 od21 an21 od22 an22 od23 an23 od24 an24 od25 an25 od26 an26 od27 an27 od28 an28 od29 an29 od30 an30 od31 an31 od32 an32 od33 an33 od34 an34 od35 an35 od36 an36 od37 an37 : Option Addr} {sl1 sl2 sl3 sl4 sl5 sl6 sl7 sl8 sl9 sl10 sl11 sl12 sl13 sl14 sl15 sl16 sl17 sl18 sl19 sl20 sl21 sl22 sl23 sl24 sl25 sl26 sl27 sl28 sl29 sl30 sl31 sl32 sl33 sl34 sl35 sl36 sl37 : Array (Option Value)} {oc1 kV1 dc1 pm1 cd1 ct1 oc2 kV2 dc2 pm2 cd2 ct2 oc3 kV3 dc3 pm3 cd3 ct3 oc4 kV4 dc4 pm4 cd4 ct4 oc5 kV5 dc5 pm5 cd5 ct5 oc6 kV6 dc6 pm6 cd6 ct6 oc7 kV7 dc7 pm7 cd7 ct7 oc8 kV8 dc8 pm8 cd8 ct8 oc9 kV9 dc9 pm9 cd9 ct9 oc10 kV10 dc10 pm10 cd10 ct10 oc11 kV11 dc11 pm11 cd11 ct11 oc12 kV12 dc12 pm12 cd12 ct12 oc13 kV13 dc13 pm13 cd13 ct13 oc14 kV14 dc14 pm14 cd14 ct14 oc15 kV15 dc15 pm15 cd15 ct15 oc16 kV16 dc16 pm16 cd16 ct16 oc17 kV17 dc17 pm17 cd17 ct17 oc18 kV18 dc18 pm18 cd18 ct18 oc19 kV19 dc19 pm19 cd19 ct19 oc20 kV20 dc20 pm20 cd20 ct20 oc21 kV21 dc21 pm21 cd21 ct21 oc22 kV22 dc22 pm22 cd22 ct22 oc23 kV23 dc23 pm23 cd23 ct23 oc24 kV24 dc24 pm24 cd24 ct24 oc25 kV25 dc25 pm25 cd25 ct25 oc26 kV26 dc26 pm26 cd26 ct26 oc27 kV27 dc27 pm27 cd27 ct27 oc28 kV28 dc28 pm28 cd28 ct28 oc29 kV29 dc29 pm29 cd29 ct29 oc30 kV30 dc30 pm30 cd30 ct30 oc31 kV31 dc31 pm31 cd31 ct31 oc32 kV32 dc32 pm32 cd32 ct32 oc33 kV33 dc33 pm33 cd33 ct33 oc34 kV34 dc34 pm34 cd34 ct34 oc35 kV35 dc35 pm35 cd35 ct35 oc36 kV36 dc36 pm36 cd36 ct36 oc37 kV37 dc37 pm37 cd37 ct37 : Value}
    (a1 : PySem.W.nsIn K mainGlobals "is_whole" = some (some (.ref f1))) (l1 : K.lookup f1 = some ⟨oc1, od1, .func (PySem.W.fnOf "is_whole" "is_whole" (defArgs sWhole) (defBody sWhole) (defScope sWhole) .none kV1 dc1 pm1 an1 cd1 ct1), sl1⟩) (c1 : PySem.W.codeIn K cd1 "is_whole" = true) (k1 : PySem.W.keepIn K (.ref f1) = true)
    (a2 : PySem.W.nsIn K mainGlobals "is_prime" = some (some (.ref f2))) (l2 : K.lookup f2 = some ⟨oc2, od2, .func (PySem.W.fnOf "is_prime" "is_prime" (defArgs sPrime) (defBody sPrime) (defScope sPrime) .none kV2 dc2 pm2 an2 cd2 ct2), sl2⟩) (c2 : PySem.W.codeIn K cd2 "is_prime" = true) (k2 : PySem.W.keepIn K (.ref f2) = true)
    (a3 : PySem.W.nsIn K mainGlobals "need_prime" = some (some (.ref f3))) (l3 : K.lookup f3 = some ⟨oc3, od3, .func (PySem.W.fnOf "need_prime" "need_prime" (defArgs sNeedP) (defBody sNeedP) (defScope sNeedP) .none kV3 dc3 pm3 an3 cd3 ct3), sl3⟩) (c3 : PySem.W.codeIn K cd3 "need_prime" = true) (k3 : PySem.W.keepIn K (.ref f3) = true)
    (a4 : PySem.W.nsIn K mainGlobals "is_residue" = some (some (.ref f4))) (l4 : K.lookup f4 = some ⟨oc4, od4, .func (PySem.W.fnOf "is_residue" "is_residue" (defArgs sResidue) (defBody sResidue) (defScope sResidue) .none kV4 dc4 pm4 an4 cd4 ct4), sl4⟩) (c4 : PySem.W.codeIn K cd4 "is_residue" = true) (k4 : PySem.W.keepIn K (.ref f4) = true)
    (a5 : PySem.W.nsIn K mainGlobals "undone" = some (some (.ref f5))) (l5 : K.lookup f5 = some ⟨oc5, od5, .func (PySem.W.fnOf "undone" "undone" (defArgs sUndone) (defBody sUndone) (defScope sUndone) .none kV5 dc5 pm5 an5 cd5 ct5), sl5⟩) (c5 : PySem.W.codeIn K cd5 "undone" = true) (k5 : PySem.W.keepIn K (.ref f5) = true)
    (a6 : PySem.W.nsIn K mainGlobals "is_sum" = some (some (.ref f6))) (l6 : K.lookup f6 = some ⟨oc6, od6, .func (PySem.W.fnOf "is_sum" "is_sum" (defArgs sIsSum) (defBody sIsSum) (defScope sIsSum) .none kV6 dc6 pm6 an6 cd6 ct6), sl6⟩) (c6 : PySem.W.codeIn K cd6 "is_sum" = true) (k6 : PySem.W.keepIn K (.ref f6) = true)
    (a7 : PySem.W.nsIn K mainGlobals "cut" = some (some (.ref f7))) (l7 : K.lookup f7 = some ⟨oc7, od7, .func (PySem.W.fnOf "cut" "cut" (defArgs sCut) (defBody sCut) (defScope sCut) .none kV7 dc7 pm7 an7 cd7 ct7), sl7⟩) (c7 : PySem.W.codeIn K cd7 "cut" = true) (k7 : PySem.W.keepIn K (.ref f7) = true)
    (a8 : PySem.W.nsIn K mainGlobals "joined" = some (some (.ref f8))) (l8 : K.lookup f8 = some ⟨oc8, od8, .func (PySem.W.fnOf "joined" "joined" (defArgs sJoined) (defBody sJoined) (defScope sJoined) .none kV8 dc8 pm8 an8 cd8 ct8), sl8⟩) (c8 : PySem.W.codeIn K cd8 "joined" = true) (k8 : PySem.W.keepIn K (.ref f8) = true)
    (a9 : PySem.W.nsIn K mainGlobals "plain_order" = some (some (.ref f9))) (l9 : K.lookup f9 = some ⟨oc9, od9, .func (PySem.W.fnOf "plain_order" "plain_order" (defArgs sPlain) (defBody sPlain) (defScope sPlain) .none kV9 dc9 pm9 an9 cd9 ct9), sl9⟩) (c9 : PySem.W.codeIn K cd9 "plain_order" = true) (k9 : PySem.W.keepIn K (.ref f9) = true)
    (a10 : PySem.W.nsIn K mainGlobals "rank_at" = some (some (.ref f10))) (l10 : K.lookup f10 = some ⟨oc10, od10, .func (PySem.W.fnOf "rank_at" "rank_at" (defArgs sRank) (defBody sRank) (defScope sRank) .none kV10 dc10 pm10 an10 cd10 ct10), sl10⟩) (c10 : PySem.W.codeIn K cd10 "rank_at" = true) (k10 : PySem.W.keepIn K (.ref f10) = true)
    (a11 : PySem.W.nsIn K mainGlobals "head_of" = some (some (.ref f11))) (l11 : K.lookup f11 = some ⟨oc11, od11, .func (PySem.W.fnOf "head_of" "head_of" (defArgs sHead) (defBody sHead) (defScope sHead) .none kV11 dc11 pm11 an11 cd11 ct11), sl11⟩) (c11 : PySem.W.codeIn K cd11 "head_of" = true) (k11 : PySem.W.keepIn K (.ref f11) = true)
    (a12 : PySem.W.nsIn K mainGlobals "less_at" = some (some (.ref f12))) (l12 : K.lookup f12 = some ⟨oc12, od12, .func (PySem.W.fnOf "less_at" "less_at" (defArgs sLess) (defBody sLess) (defScope sLess) .none kV12 dc12 pm12 an12 cd12 ct12), sl12⟩) (c12 : PySem.W.codeIn K cd12 "less_at" = true) (k12 : PySem.W.keepIn K (.ref f12) = true)
    (a13 : PySem.W.nsIn K mainGlobals "unlike_heads" = some (some (.ref f13))) (l13 : K.lookup f13 = some ⟨oc13, od13, .func (PySem.W.fnOf "unlike_heads" "unlike_heads" (defArgs sUnlike) (defBody sUnlike) (defScope sUnlike) .none kV13 dc13 pm13 an13 cd13 ct13), sl13⟩) (c13 : PySem.W.codeIn K cd13 "unlike_heads" = true) (k13 : PySem.W.keepIn K (.ref f13) = true)
    (a14 : PySem.W.nsIn K mainGlobals "too_high" = some (some (.ref f14))) (l14 : K.lookup f14 = some ⟨oc14, od14, .func (PySem.W.fnOf "too_high" "too_high" (defArgs sHigh) (defBody sHigh) (defScope sHigh) .none kV14 dc14 pm14 an14 cd14 ct14), sl14⟩) (c14 : PySem.W.codeIn K cd14 "too_high" = true) (k14 : PySem.W.keepIn K (.ref f14) = true)
    (a15 : PySem.W.nsIn K mainGlobals "lowered" = some (some (.ref f15))) (l15 : K.lookup f15 = some ⟨oc15, od15, .func (PySem.W.fnOf "lowered" "lowered" (defArgs sLowered) (defBody sLowered) (defScope sLowered) .none kV15 dc15 pm15 an15 cd15 ct15), sl15⟩) (c15 : PySem.W.codeIn K cd15 "lowered" = true) (k15 : PySem.W.keepIn K (.ref f15) = true)
    (a16 : PySem.W.nsIn K mainGlobals "level_at" = some (some (.ref f16))) (l16 : K.lookup f16 = some ⟨oc16, od16, .func (PySem.W.fnOf "level_at" "level_at" (defArgs sLevel) (defBody sLevel) (defScope sLevel) .none kV16 dc16 pm16 an16 cd16 ct16), sl16⟩) (c16 : PySem.W.codeIn K cd16 "level_at" = true) (k16 : PySem.W.keepIn K (.ref f16) = true)
    (a17 : PySem.W.nsIn K mainGlobals "led_rows" = some (some (.ref f17))) (l17 : K.lookup f17 = some ⟨oc17, od17, .func (PySem.W.fnOf "led_rows" "led_rows" (defArgs sLed) (defBody sLed) (defScope sLed) .none kV17 dc17 pm17 an17 cd17 ct17), sl17⟩) (c17 : PySem.W.codeIn K cd17 "led_rows" = true) (k17 : PySem.W.keepIn K (.ref f17) = true)
    (a18 : PySem.W.nsIn K mainGlobals "told_rows" = some (some (.ref f18))) (l18 : K.lookup f18 = some ⟨oc18, od18, .func (PySem.W.fnOf "told_rows" "told_rows" (defArgs sToldRows) (defBody sToldRows) (defScope sToldRows) .none kV18 dc18 pm18 an18 cd18 ct18), sl18⟩) (c18 : PySem.W.codeIn K cd18 "told_rows" = true) (k18 : PySem.W.keepIn K (.ref f18) = true)
    (a19 : PySem.W.nsIn K mainGlobals "is_equation" = some (some (.ref f19))) (l19 : K.lookup f19 = some ⟨oc19, od19, .func (PySem.W.fnOf "is_equation" "is_equation" (defArgs sIsEq) (defBody sIsEq) (defScope sIsEq) .none kV19 dc19 pm19 an19 cd19 ct19), sl19⟩) (c19 : PySem.W.codeIn K cd19 "is_equation" = true) (k19 : PySem.W.keepIn K (.ref f19) = true)
    (a20 : PySem.W.nsIn K mainGlobals "need_rows" = some (some (.ref f20))) (l20 : K.lookup f20 = some ⟨oc20, od20, .func (PySem.W.fnOf "need_rows" "need_rows" (defArgs sNeedR) (defBody sNeedR) (defScope sNeedR) .none kV20 dc20 pm20 an20 cd20 ct20), sl20⟩) (c20 : PySem.W.codeIn K cd20 "need_rows" = true) (k20 : PySem.W.keepIn K (.ref f20) = true)
    (a21 : PySem.W.nsIn K mainGlobals "need_table" = some (some (.ref f21))) (l21 : K.lookup f21 = some ⟨oc21, od21, .func (PySem.W.fnOf "need_table" "need_table" (defArgs sNeedT) (defBody sNeedT) (defScope sNeedT) .none kV21 dc21 pm21 an21 cd21 ct21), sl21⟩) (c21 : PySem.W.codeIn K cd21 "need_table" = true) (k21 : PySem.W.keepIn K (.ref f21) = true)
    (a22 : PySem.W.nsIn K mainGlobals "told" = some (some (.ref f22))) (l22 : K.lookup f22 = some ⟨oc22, od22, .func (PySem.W.fnOf "told" "told" (defArgs sTold) (defBody sTold) (defScope sTold) .none kV22 dc22 pm22 an22 cd22 ct22), sl22⟩) (c22 : PySem.W.codeIn K cd22 "told" = true) (k22 : PySem.W.keepIn K (.ref f22) = true)
    (a23 : PySem.W.nsIn K mainGlobals "_law_bag" = some (some (.ref f23))) (l23 : K.lookup f23 = some ⟨oc23, od23, .func (PySem.W.fnOf "_law_bag" "_law_bag" (defArgs sBag) (defBody sBag) (defScope sBag) .none kV23 dc23 pm23 an23 cd23 ct23), sl23⟩) (c23 : PySem.W.codeIn K cd23 "_law_bag" = true) (k23 : PySem.W.keepIn K (.ref f23) = true)
    (a24 : PySem.W.nsIn K mainGlobals "_law_pull" = some (some (.ref f24))) (l24 : K.lookup f24 = some ⟨oc24, od24, .func (PySem.W.fnOf "_law_pull" "_law_pull" (defArgs sPull) (defBody sPull) (defScope sPull) .none kV24 dc24 pm24 an24 cd24 ct24), sl24⟩) (c24 : PySem.W.codeIn K cd24 "_law_pull" = true) (k24 : PySem.W.keepIn K (.ref f24) = true)
    (a25 : PySem.W.nsIn K mainGlobals "_law_of" = some (some (.ref f25))) (l25 : K.lookup f25 = some ⟨oc25, od25, .func (PySem.W.fnOf "_law_of" "_law_of" (defArgs sOf) (defBody sOf) (defScope sOf) .none kV25 dc25 pm25 an25 cd25 ct25), sl25⟩) (c25 : PySem.W.codeIn K cd25 "_law_of" = true) (k25 : PySem.W.keepIn K (.ref f25) = true)
    (a26 : PySem.W.nsIn K mainGlobals "_law_primes" = some (some (.ref f26))) (l26 : K.lookup f26 = some ⟨oc26, od26, .func (PySem.W.fnOf "_law_primes" "_law_primes" (defArgs sPrimes) (defBody sPrimes) (defScope sPrimes) .none kV26 dc26 pm26 an26 cd26 ct26), sl26⟩) (c26 : PySem.W.codeIn K cd26 "_law_primes" = true) (k26 : PySem.W.keepIn K (.ref f26) = true)
    (a27 : PySem.W.nsIn K mainGlobals "_law_prime" = some (some (.ref f27))) (l27 : K.lookup f27 = some ⟨oc27, od27, .func (PySem.W.fnOf "_law_prime" "_law_prime" (defArgs sLPrime) (defBody sLPrime) (defScope sLPrime) .none kV27 dc27 pm27 an27 cd27 ct27), sl27⟩) (c27 : PySem.W.codeIn K cd27 "_law_prime" = true) (k27 : PySem.W.keepIn K (.ref f27) = true)
    (a28 : PySem.W.nsIn K mainGlobals "_law_cut" = some (some (.ref f28))) (l28 : K.lookup f28 = some ⟨oc28, od28, .func (PySem.W.fnOf "_law_cut" "_law_cut" (defArgs sLCut) (defBody sLCut) (defScope sLCut) .none kV28 dc28 pm28 an28 cd28 ct28), sl28⟩) (c28 : PySem.W.codeIn K cd28 "_law_cut" = true) (k28 : PySem.W.keepIn K (.ref f28) = true)
    (a29 : PySem.W.nsIn K mainGlobals "_law_sum" = some (some (.ref f29))) (l29 : K.lookup f29 = some ⟨oc29, od29, .func (PySem.W.fnOf "_law_sum" "_law_sum" (defArgs sLSum) (defBody sLSum) (defScope sLSum) .none kV29 dc29 pm29 an29 cd29 ct29), sl29⟩) (c29 : PySem.W.codeIn K cd29 "_law_sum" = true) (k29 : PySem.W.keepIn K (.ref f29) = true)
    (a30 : PySem.W.nsIn K mainGlobals "_law_spread" = some (some (.ref f30))) (l30 : K.lookup f30 = some ⟨oc30, od30, .func (PySem.W.fnOf "_law_spread" "_law_spread" (defArgs sSpread) (defBody sSpread) (defScope sSpread) .none kV30 dc30 pm30 an30 cd30 ct30), sl30⟩) (c30 : PySem.W.codeIn K cd30 "_law_spread" = true) (k30 : PySem.W.keepIn K (.ref f30) = true)
    (a31 : PySem.W.nsIn K mainGlobals "_law_plus" = some (some (.ref f31))) (l31 : K.lookup f31 = some ⟨oc31, od31, .func (PySem.W.fnOf "_law_plus" "_law_plus" (defArgs sPlus) (defBody sPlus) (defScope sPlus) .none kV31 dc31 pm31 an31 cd31 ct31), sl31⟩) (c31 : PySem.W.codeIn K cd31 "_law_plus" = true) (k31 : PySem.W.keepIn K (.ref f31) = true)
    (a32 : PySem.W.nsIn K mainGlobals "_law_times" = some (some (.ref f32))) (l32 : K.lookup f32 = some ⟨oc32, od32, .func (PySem.W.fnOf "_law_times" "_law_times" (defArgs sTimes) (defBody sTimes) (defScope sTimes) .none kV32 dc32 pm32 an32 cd32 ct32), sl32⟩) (c32 : PySem.W.codeIn K cd32 "_law_times" = true) (k32 : PySem.W.keepIn K (.ref f32) = true)
    (a33 : PySem.W.nsIn K mainGlobals "_law_made" = some (some (.ref f33))) (l33 : K.lookup f33 = some ⟨oc33, od33, .func (PySem.W.fnOf "_law_made" "_law_made" (defArgs sMade) (defBody sMade) (defScope sMade) .none kV33 dc33 pm33 an33 cd33 ct33), sl33⟩) (c33 : PySem.W.codeIn K cd33 "_law_made" = true) (k33 : PySem.W.keepIn K (.ref f33) = true)
    (a34 : PySem.W.nsIn K mainGlobals "_law_rows" = some (some (.ref f34))) (l34 : K.lookup f34 = some ⟨oc34, od34, .func (PySem.W.fnOf "_law_rows" "_law_rows" (defArgs sLRows) (defBody sLRows) (defScope sLRows) .none kV34 dc34 pm34 an34 cd34 ct34), sl34⟩) (c34 : PySem.W.codeIn K cd34 "_law_rows" = true) (k34 : PySem.W.keepIn K (.ref f34) = true)
    (a35 : PySem.W.nsIn K mainGlobals "_law_scaled" = some (some (.ref f35))) (l35 : K.lookup f35 = some ⟨oc35, od35, .func (PySem.W.fnOf "_law_scaled" "_law_scaled" (defArgs sScaled) (defBody sScaled) (defScope sScaled) .none kV35 dc35 pm35 an35 cd35 ct35), sl35⟩) (c35 : PySem.W.codeIn K cd35 "_law_scaled" = true) (k35 : PySem.W.keepIn K (.ref f35) = true)
    (a36 : PySem.W.nsIn K mainGlobals "_law_stirred" = some (some (.ref f36))) (l36 : K.lookup f36 = some ⟨oc36, od36, .func (PySem.W.fnOf "_law_stirred" "_law_stirred" (defArgs sStirred) (defBody sStirred) (defScope sStirred) .none kV36 dc36 pm36 an36 cd36 ct36), sl36⟩) (c36 : PySem.W.codeIn K cd36 "_law_stirred" = true) (k36 : PySem.W.keepIn K (.ref f36) = true)
    (a37 : PySem.W.nsIn K mainGlobals "law" = some (some (.ref f37))) (l37 : K.lookup f37 = some ⟨oc37, od37, .func (PySem.W.fnOf "law" "law" (defArgs sLaw) (defBody sLaw) (defScope sLaw) .none kV37 dc37 pm37 an37 cd37 ct37), sl37⟩) (c37 : PySem.W.codeIn K cd37 "law" = true) (k37 : PySem.W.keepIn K (.ref f37) = true)
    (z1 : PySem.W.nsIn K mainGlobals "len" = some none) (z2 : PySem.W.nsIn K mainGlobals "range" = some none) (z3 : PySem.W.nsIn K mainGlobals "zip" = some none) (z4 : PySem.W.nsIn K mainGlobals "enumerate" = some none) (z5 : PySem.W.nsIn K mainGlobals "tuple" = some none) (z6 : PySem.W.nsIn K mainGlobals "list" = some none) (z7 : PySem.W.nsIn K mainGlobals "all" = some none) (z8 : PySem.W.nsIn K mainGlobals "any" = some none) (z9 : PySem.W.nsIn K mainGlobals "sorted" = some none) (z10 : PySem.W.nsIn K mainGlobals "isinstance" = some none) (z11 : PySem.W.nsIn K mainGlobals "max" = some none) (z12 : PySem.W.nsIn K mainGlobals "min" = some none) (z13 : PySem.W.nsIn K mainGlobals "int" = some none) (z14 : PySem.W.nsIn K mainGlobals "bool" = some none)
    (nPl : PySem.W.nsIn K mainGlobals "MOST_PLACES" = some (some (.int 12 tPl))) (nWi : PySem.W.nsIn K mainGlobals "MOST_WIDTH" = some (some (.int 12 tWi))) (nRo : PySem.W.nsIn K mainGlobals "MOST_ROWS" = some (some (.int 12 tRo)))
    (pA : PySem.W.nsIn K mainGlobals "PRIMES" = some (some (.ref aP))) (pL : K.lookup aP = some oP) (pC : oP.cls = .type "tuple") (pD : oP.data = .seq iP nP) (pS : (decide (iP.size ≤ sizeLine) && sameInts iP.toList PRIMES) = true) :
    ∃ fd : FuncData, (∀ (s : Shared) (v : Value), BindsTo s fd ⟨[v], []⟩ [("_law_script", v)]) ∧ ∀ base : Heap, K.In base → base.Ns mainGlobals mg → FnOk l.prog w K mg base CX0 8 fa fd ["_law_script"] (spLaw K) := by
  have e := hfa.symm.trans (PySem.W.mg_of X G a37)
  cases e
  have T : Blt mg := ⟨PySem.W.mg_none_of X G z1, PySem.W.mg_none_of X G z2, PySem.W.mg_none_of X G z3, PySem.W.mg_none_of X G z4, PySem.W.mg_none_of X G z5, PySem.W.mg_none_of X G z6, PySem.W.mg_none_of X G z7, PySem.W.mg_none_of X G z8, PySem.W.mg_none_of X G z9, PySem.W.mg_none_of X G z10, PySem.W.mg_none_of X G z11, PySem.W.mg_none_of X G z12, PySem.W.mg_none_of X G z13, PySem.W.mg_none_of X G z14⟩
  have PR := primes_mk X G pA pL pC pD pS
  have NP : NumAt mg "MOST_PLACES" 12 := ⟨_, PySem.W.mg_of X G nPl⟩
  have NW : NumAt mg "MOST_WIDTH" 12 := ⟨_, PySem.W.mg_of X G nWi⟩
  have NR : NumAt mg "MOST_ROWS" 12 := ⟨_, PySem.W.mg_of X G nRo⟩
  have F1 := fun_mk (st := sWhole) l1 c1 k1
  have D1 : IsDef K mg "is_whole" sWhole ["thing"] := ⟨f1, _, F1, PySem.W.mg_of X G a1, F1.binds (ps := ["thing"]) fun _ _ _ _ _ _ us hl => match us, hl with | [_], _ => rfl⟩
  have F2 := fun_mk (st := sPrime) l2 c2 k2
  have D2 : IsDef K mg "is_prime" sPrime ["number"] := ⟨f2, _, F2, PySem.W.mg_of X G a2, F2.binds (ps := ["number"]) fun _ _ _ _ _ _ us hl => match us, hl with | [_], _ => rfl⟩
  have F3 := fun_mk (st := sNeedP) l3 c3 k3
  have D3 : IsDef K mg "need_prime" sNeedP ["prime"] := ⟨f3, _, F3, PySem.W.mg_of X G a3, F3.binds (ps := ["prime"]) fun _ _ _ _ _ _ us hl => match us, hl with | [_], _ => rfl⟩
  have F4 := fun_mk (st := sResidue) l4 c4 k4
  have D4 : IsDef K mg "is_residue" sResidue ["thing", "prime"] := ⟨f4, _, F4, PySem.W.mg_of X G a4, F4.binds (ps := ["thing", "prime"]) fun _ _ _ _ _ _ us hl => match us, hl with | [_, _], _ => rfl⟩
  have F5 := fun_mk (st := sUndone) l5 c5 k5
  have D5 : IsDef K mg "undone" sUndone ["number", "prime"] := ⟨f5, _, F5, PySem.W.mg_of X G a5, F5.binds (ps := ["number", "prime"]) fun _ _ _ _ _ _ us hl => match us, hl with | [_, _], _ => rfl⟩
  have F6 := fun_mk (st := sIsSum) l6 c6 k6
  have D6 : IsDef K mg "is_sum" sIsSum ["thing", "prime"] := ⟨f6, _, F6, PySem.W.mg_of X G a6, F6.binds (ps := ["thing", "prime"]) fun _ _ _ _ _ _ us hl => match us, hl with | [_, _], _ => rfl⟩
  have F7 := fun_mk (st := sCut) l7 c7 k7
  have D7 : IsDef K mg "cut" sCut ["numbers"] := ⟨f7, _, F7, PySem.W.mg_of X G a7, F7.binds (ps := ["numbers"]) fun _ _ _ _ _ _ us hl => match us, hl with | [_], _ => rfl⟩
  have F8 := fun_mk (st := sJoined) l8 c8 k8
  have D8 : IsDef K mg "joined" sJoined ["one", "other", "number", "by", "prime"] := ⟨f8, _, F8, PySem.W.mg_of X G a8, F8.binds (ps := ["one", "other", "number", "by", "prime"]) fun _ _ _ _ _ _ us hl => match us, hl with | [_, _, _, _, _], _ => rfl⟩
  have F9 := fun_mk (st := sPlain) l9 c9 k9
  have D9 : IsDef K mg "plain_order" sPlain ["width"] := ⟨f9, _, F9, PySem.W.mg_of X G a9, F9.binds (ps := ["width"]) fun _ _ _ _ _ _ us hl => match us, hl with | [_], _ => rfl⟩
  have F10 := fun_mk (st := sRank) l10 c10 k10
  have D10 : IsDef K mg "rank_at" sRank ["row", "order", "end"] := ⟨f10, _, F10, PySem.W.mg_of X G a10, F10.binds (ps := ["row", "order", "end"]) fun _ _ _ _ _ _ us hl => match us, hl with | [_, _, _], _ => rfl⟩
  have F11 := fun_mk (st := sHead) l11 c11 k11
  have D11 : IsDef K mg "head_of" sHead ["row", "order"] := ⟨f11, _, F11, PySem.W.mg_of X G a11, F11.binds (ps := ["row", "order"]) fun _ _ _ _ _ _ us hl => match us, hl with | [_, _], _ => rfl⟩
  have F12 := fun_mk (st := sLess) l12 c12 k12
  have D12 : IsDef K mg "less_at" sLess ["row", "other", "end", "prime"] := ⟨f12, _, F12, PySem.W.mg_of X G a12, F12.binds (ps := ["row", "other", "end", "prime"]) fun _ _ _ _ _ _ us hl => match us, hl with | [_, _, _, _], _ => rfl⟩
  have F13 := fun_mk (st := sUnlike) l13 c13 k13
  have D13 : IsDef K mg "unlike_heads" sUnlike ["rows", "order", "prime"] := ⟨f13, _, F13, PySem.W.mg_of X G a13, F13.binds (ps := ["rows", "order", "prime"]) fun _ _ _ _ _ _ us hl => match us, hl with | [_, _, _], _ => rfl⟩
  have F14 := fun_mk (st := sHigh) l14 c14 k14
  have D14 : IsDef K mg "too_high" sHigh ["row", "found", "order", "own"] := ⟨f14, _, F14, PySem.W.mg_of X G a14, F14.binds (ps := ["row", "found", "order", "own"]) fun _ _ _ _ _ _ us hl => match us, hl with | [_, _, _, _], _ => rfl⟩
  have F15 := fun_mk (st := sLowered) l15 c15 k15
  have D15 : IsDef K mg "lowered" sLowered ["row", "found", "order", "own", "prime"] := ⟨f15, _, F15, PySem.W.mg_of X G a15, F15.binds (ps := ["row", "found", "order", "own", "prime"]) fun _ _ _ _ _ _ us hl => match us, hl with | [_, _, _, _, _], _ => rfl⟩
  have F16 := fun_mk (st := sLevel) l16 c16 k16
  have D16 : IsDef K mg "level_at" sLevel ["row", "end", "prime"] := ⟨f16, _, F16, PySem.W.mg_of X G a16, F16.binds (ps := ["row", "end", "prime"]) fun _ _ _ _ _ _ us hl => match us, hl with | [_, _, _], _ => rfl⟩
  have F17 := fun_mk (st := sLed) l17 c17 k17
  have D17 : IsDef K mg "led_rows" sLed ["rows", "order", "prime"] := ⟨f17, _, F17, PySem.W.mg_of X G a17, F17.binds (ps := ["rows", "order", "prime"]) fun _ _ _ _ _ _ us hl => match us, hl with | [_, _, _], _ => rfl⟩
  have F18 := fun_mk (st := sToldRows) l18 c18 k18
  have D18 : IsDef K mg "told_rows" sToldRows ["rows", "width", "prime"] := ⟨f18, _, F18, PySem.W.mg_of X G a18, F18.binds (ps := ["rows", "width", "prime"]) fun _ _ _ _ _ _ us hl => match us, hl with | [_, _, _], _ => rfl⟩
  have F19 := fun_mk (st := sIsEq) l19 c19 k19
  have D19 : IsDef K mg "is_equation" sIsEq ["row", "width", "prime"] := ⟨f19, _, F19, PySem.W.mg_of X G a19, F19.binds (ps := ["row", "width", "prime"]) fun _ _ _ _ _ _ us hl => match us, hl with | [_, _, _], _ => rfl⟩
  have F20 := fun_mk (st := sNeedR) l20 c20 k20
  have D20 : IsDef K mg "need_rows" sNeedR ["rows", "width", "prime", "most"] := ⟨f20, _, F20, PySem.W.mg_of X G a20, F20.binds (ps := ["rows", "width", "prime", "most"]) fun _ _ _ _ _ _ us hl => match us, hl with | [_, _, _, _], _ => rfl⟩
  have F21 := fun_mk (st := sNeedT) l21 c21 k21
  have D21 : IsDef K mg "need_table" sNeedT ["rows", "width", "prime"] := ⟨f21, _, F21, PySem.W.mg_of X G a21, F21.binds (ps := ["rows", "width", "prime"]) fun _ _ _ _ _ _ us hl => match us, hl with | [_, _, _], _ => rfl⟩
  have D22 : ∃ f fd, Fun K "told" "told" sTold f fd ∧ mg "told" = some (.ref f) := ⟨f22, _, fun_mk l22 c22 k22, PySem.W.mg_of X G a22⟩
  have F23 := fun_mk (st := sBag) l23 c23 k23
  have D23 : IsDef K mg "_law_bag" sBag ["_law_script"] := ⟨f23, _, F23, PySem.W.mg_of X G a23, F23.binds (ps := ["_law_script"]) fun _ _ _ _ _ _ us hl => match us, hl with | [_], _ => rfl⟩
  have F24 := fun_mk (st := sPull) l24 c24 k24
  have D24 : IsDef K mg "_law_pull" sPull ["_law_bag_here", "_law_many"] := ⟨f24, _, F24, PySem.W.mg_of X G a24, F24.binds (ps := ["_law_bag_here", "_law_many"]) fun _ _ _ _ _ _ us hl => match us, hl with | [_, _], _ => rfl⟩
  have F25 := fun_mk (st := sOf) l25 c25 k25
  have D25 : IsDef K mg "_law_of" sOf ["_law_bag_here", "_law_some"] := ⟨f25, _, F25, PySem.W.mg_of X G a25, F25.binds (ps := ["_law_bag_here", "_law_some"]) fun _ _ _ _ _ _ us hl => match us, hl with | [_, _], _ => rfl⟩
  have F26 := fun_mk (st := sPrimes) l26 c26 k26
  have D26 : IsDef K mg "_law_primes" sPrimes [] := ⟨f26, _, F26, PySem.W.mg_of X G a26, F26.binds (ps := []) fun _ _ _ _ _ _ us hl => match us, hl with | [], _ => rfl⟩
  have F27 := fun_mk (st := sLPrime) l27 c27 k27
  have D27 : IsDef K mg "_law_prime" sLPrime ["_law_bag_here"] := ⟨f27, _, F27, PySem.W.mg_of X G a27, F27.binds (ps := ["_law_bag_here"]) fun _ _ _ _ _ _ us hl => match us, hl with | [_], _ => rfl⟩
  have F28 := fun_mk (st := sLCut) l28 c28 k28
  have D28 : IsDef K mg "_law_cut" sLCut ["_law_numbers"] := ⟨f28, _, F28, PySem.W.mg_of X G a28, F28.binds (ps := ["_law_numbers"]) fun _ _ _ _ _ _ us hl => match us, hl with | [_], _ => rfl⟩
  have F29 := fun_mk (st := sLSum) l29 c29 k29
  have D29 : IsDef K mg "_law_sum" sLSum ["_law_bag_here", "_law_p", "_law_most"] := ⟨f29, _, F29, PySem.W.mg_of X G a29, F29.binds (ps := ["_law_bag_here", "_law_p", "_law_most"]) fun _ _ _ _ _ _ us hl => match us, hl with | [_, _, _], _ => rfl⟩
  have F30 := fun_mk (st := sSpread) l30 c30 k30
  have D30 : IsDef K mg "_law_spread" sSpread ["_law_bag_here", "_law_p", "_law_width", "_law_most"] := ⟨f30, _, F30, PySem.W.mg_of X G a30, F30.binds (ps := ["_law_bag_here", "_law_p", "_law_width", "_law_most"]) fun _ _ _ _ _ _ us hl => match us, hl with | [_, _, _, _], _ => rfl⟩
  have F31 := fun_mk (st := sPlus) l31 c31 k31
  have D31 : IsDef K mg "_law_plus" sPlus ["_law_one", "_law_other", "_law_p"] := ⟨f31, _, F31, PySem.W.mg_of X G a31, F31.binds (ps := ["_law_one", "_law_other", "_law_p"]) fun _ _ _ _ _ _ us hl => match us, hl with | [_, _, _], _ => rfl⟩
  have F32 := fun_mk (st := sTimes) l32 c32 k32
  have D32 : IsDef K mg "_law_times" sTimes ["_law_one", "_law_other", "_law_p"] := ⟨f32, _, F32, PySem.W.mg_of X G a32, F32.binds (ps := ["_law_one", "_law_other", "_law_p"]) fun _ _ _ _ _ _ us hl => match us, hl with | [_, _, _], _ => rfl⟩
  have F33 := fun_mk (st := sMade) l33 c33 k33
  have D33 : IsDef K mg "_law_made" sMade ["_law_by", "_law_rows_here", "_law_width", "_law_p"] := ⟨f33, _, F33, PySem.W.mg_of X G a33, F33.binds (ps := ["_law_by", "_law_rows_here", "_law_width", "_law_p"]) fun _ _ _ _ _ _ us hl => match us, hl with | [_, _, _, _], _ => rfl⟩
  have F34 := fun_mk (st := sLRows) l34 c34 k34
  have D34 : IsDef K mg "_law_rows" sLRows ["_law_bag_here", "_law_p", "_law_width", "_law_most"] := ⟨f34, _, F34, PySem.W.mg_of X G a34, F34.binds (ps := ["_law_bag_here", "_law_p", "_law_width", "_law_most"]) fun _ _ _ _ _ _ us hl => match us, hl with | [_, _, _, _], _ => rfl⟩
  have F35 := fun_mk (st := sScaled) l35 c35 k35
  have D35 : IsDef K mg "_law_scaled" sScaled ["_law_one", "_law_number", "_law_p"] := ⟨f35, _, F35, PySem.W.mg_of X G a35, F35.binds (ps := ["_law_one", "_law_number", "_law_p"]) fun _ _ _ _ _ _ us hl => match us, hl with | [_, _, _], _ => rfl⟩
  have F36 := fun_mk (st := sStirred) l36 c36 k36
  have D36 : IsDef K mg "_law_stirred" sStirred ["_law_bag_here", "_law_rows_here", "_law_width", "_law_p"] := ⟨f36, _, F36, PySem.W.mg_of X G a36, F36.binds (ps := ["_law_bag_here", "_law_rows_here", "_law_width", "_law_p"]) fun _ _ _ _ _ _ us hl => match us, hl with | [_, _, _, _], _ => rfl⟩
  have F37 := fun_mk (st := sLaw) l37 c37 k37
  refine ⟨PySem.W.fnOf "law" "law" (defArgs sLaw) (defBody sLaw) (defScope sLaw) .none kV37 dc37 pm37 an37 cd37 ct37, fun s v => .of_eq rfl, fun base _ _ => ?_⟩
  have H1 := ok_whole (P := l.prog) (w := w) (base := base) D1 T
  have H2 := ok_prime (P := l.prog) (w := w) (base := base) D2 PR H1
  have H3 := ok_needp (P := l.prog) (w := w) (base := base) D3 H2
  have H4 := ok_residue (P := l.prog) (w := w) (base := base) D4 H1
  have H5 := ok_undone (P := l.prog) (w := w) (base := base) D5 T
  have H6 := ok_issum (P := l.prog) (w := w) (base := base) D6 T NP H4
  have H7 := ok_cut (P := l.prog) (w := w) (base := base) D7 T
  have H8 := ok_joined (P := l.prog) (w := w) (base := base) D8 T H7
  have H9 := ok_plain (P := l.prog) (w := w) (base := base) D9 T
  have H10 := ok_rank (P := l.prog) (w := w) (base := base) D10 T
  have H11 := ok_head (P := l.prog) (w := w) (base := base) D11 T H10
  have H12 := ok_less (P := l.prog) (w := w) (base := base) D12 T H5 H8
  have H13 := ok_unlike (P := l.prog) (w := w) (base := base) D13 T H11 H12
  have H14 := ok_high (P := l.prog) (w := w) (base := base) D14 T H10
  have H15 := ok_lowered (P := l.prog) (w := w) (base := base) D15 T H14 H12
  have H16 := ok_level (P := l.prog) (w := w) (base := base) D16 T H5 H8
  have H17 := ok_led (P := l.prog) (w := w) (base := base) D17 T H13 H15 H16
  have H18 := ok_toldrows (P := l.prog) (w := w) (base := base) D18 H9 H17
  have H19 := ok_iseq (P := l.prog) (w := w) (base := base) D19 T H6
  have H20 := ok_needr (P := l.prog) (w := w) (base := base) D20 T H19
  have H21 := ok_needt (P := l.prog) (w := w) (base := base) D21 NW NR H3 H1 H20
  have H22 := ok_told (P := l.prog) (w := w) (base := base) D22 H21 H18
  have H23 := ok_bag (P := l.prog) (w := w) (base := base) D23 T
  have H24 := ok_pull (P := l.prog) (w := w) (base := base) D24 T
  have H25 := ok_of (P := l.prog) (w := w) (base := base) D25 T H24
  have H26 := ok_primes (P := l.prog) (w := w) (base := base) D26 
  have H27 := ok_lprime (P := l.prog) (w := w) (base := base) D27 H25 H26
  have H28 := ok_lcut (P := l.prog) (w := w) (base := base) D28 T
  have H29 := ok_lsum (P := l.prog) (w := w) (base := base) D29 T H25 H24 H28
  have H30 := ok_spread (P := l.prog) (w := w) (base := base) D30 T H24 H29
  have H31 := ok_plus (P := l.prog) (w := w) (base := base) D31 T H28
  have H32 := ok_times (P := l.prog) (w := w) (base := base) D32 T H28
  have H33 := ok_made (P := l.prog) (w := w) (base := base) D33 T H31 H32
  have H34 := ok_lrows (P := l.prog) (w := w) (base := base) D34 T H24 H29 H30 H33
  have H35 := ok_scaled (P := l.prog) (w := w) (base := base) D35 H28
  have H36 := ok_stirred (P := l.prog) (w := w) (base := base) D36 T H24 H29 H33 H35
  exact ok_law F37 T H23 H24 H27 H34 H36 H22
end K8
open PySem PySem.W PyProof.Rows in
set_option maxRecDepth 100000 in
set_option maxHeartbeats 0 in
theorem PySem.Challenge.cw_lagworks_k08_whole_one_told_form_holds : PySem.Challenge.rw_lagworks_k08_whole_one_told_form.Holds := by
  w_on; o_law; k_head; (case hw => w_witness2)
  k_fill
  refine L2.walk_of (l := PySem.Challenge.rw_lagworks_k08_whole_one_told_form) (n := 63) (k := 8) (x := "_law_script") (CX := fun _ => L2.CX0) (sp := fun w => K8.spLaw _) rfl (by decide) rfl ⟨rfl, by decide, by decide⟩ (fun w h Y => PySem.W.kIn_of Y) ?F (fun _ _ a ns hl _ hS => ⟨a, ns, rfl, hS, hl, fun _ => rfl⟩) (fun _ _ _ _ _ h => h)
  case F =>
    intro w mg fa h KX G hmg
    refine' K8.all_mk KX G hmg ?a1 ?l1 ?c1 ?k1 ?a2 ?l2 ?c2 ?k2 ?a3 ?l3 ?c3 ?k3 ?a4 ?l4 ?c4 ?k4 ?a5 ?l5 ?c5 ?k5 ?a6 ?l6 ?c6 ?k6 ?a7 ?l7 ?c7 ?k7 ?a8 ?l8 ?c8 ?k8 ?a9 ?l9 ?c9 ?k9 ?a10 ?l10 ?c10 ?k10 ?a11 ?l11 ?c11 ?k11 ?a12 ?l12 ?c12 ?k12 ?a13 ?l13 ?c13 ?k13 ?a14 ?l14 ?c14 ?k14 ?a15 ?l15 ?c15 ?k15 ?a16 ?l16 ?c16 ?k16 ?a17 ?l17 ?c17 ?k17 ?a18 ?l18 ?c18 ?k18 ?a19 ?l19 ?c19 ?k19 ?a20 ?l20 ?c20 ?k20 ?a21 ?l21 ?c21 ?k21 ?a22 ?l22 ?c22 ?k22 ?a23 ?l23 ?c23 ?k23 ?a24 ?l24 ?c24 ?k24 ?a25 ?l25 ?c25 ?k25 ?a26 ?l26 ?c26 ?k26 ?a27 ?l27 ?c27 ?k27 ?a28 ?l28 ?c28 ?k28 ?a29 ?l29 ?c29 ?k29 ?a30 ?l30 ?c30 ?k30 ?a31 ?l31 ?c31 ?k31 ?a32 ?l32 ?c32 ?k32 ?a33 ?l33 ?c33 ?k33 ?a34 ?l34 ?c34 ?k34 ?a35 ?l35 ?c35 ?k35 ?a36 ?l36 ?c36 ?k36 ?a37 ?l37 ?c37 ?k37 ?z1 ?z2 ?z3 ?z4 ?z5 ?z6 ?z7 ?z8 ?z9 ?z10 ?z11 ?z12 ?z13 ?z14 ?nPl ?nWi ?nRo ?pA ?pL ?pC ?pD ?pS
    (case a1 => k_is)
    (case l1 => k_is)
    (case c1 => k_is)
    (case k1 => k_is)
    (case a2 => k_is)
    (case l2 => k_is)
    (case c2 => k_is)
    (case k2 => k_is)
    (case a3 => k_is)
    (case l3 => k_is)
    (case c3 => k_is)
    (case k3 => k_is)
    (case a4 => k_is)
    (case l4 => k_is)
    (case c4 => k_is)
    (case k4 => k_is)
    (case a5 => k_is)
    (case l5 => k_is)
    (case c5 => k_is)
    (case k5 => k_is)
    (case a6 => k_is)
    (case l6 => k_is)
    (case c6 => k_is)
    (case k6 => k_is)
    (case a7 => k_is)
    (case l7 => k_is)
    (case c7 => k_is)
    (case k7 => k_is)
    (case a8 => k_is)
    (case l8 => k_is)
    (case c8 => k_is)
    (case k8 => k_is)
    (case a9 => k_is)
    (case l9 => k_is)
    (case c9 => k_is)
    (case k9 => k_is)
    (case a10 => k_is)
    (case l10 => k_is)
    (case c10 => k_is)
    (case k10 => k_is)
    (case a11 => k_is)
    (case l11 => k_is)
    (case c11 => k_is)
    (case k11 => k_is)
    (case a12 => k_is)
    (case l12 => k_is)
    (case c12 => k_is)
    (case k12 => k_is)
    (case a13 => k_is)
    (case l13 => k_is)
    (case c13 => k_is)
    (case k13 => k_is)
    (case a14 => k_is)
    (case l14 => k_is)
    (case c14 => k_is)
    (case k14 => k_is)
    (case a15 => k_is)
    (case l15 => k_is)
    (case c15 => k_is)
    (case k15 => k_is)
    (case a16 => k_is)
    (case l16 => k_is)
    (case c16 => k_is)
    (case k16 => k_is)
    (case a17 => k_is)
    (case l17 => k_is)
    (case c17 => k_is)
    (case k17 => k_is)
    (case a18 => k_is)
    (case l18 => k_is)
    (case c18 => k_is)
    (case k18 => k_is)
    (case a19 => k_is)
    (case l19 => k_is)
    (case c19 => k_is)
    (case k19 => k_is)
    (case a20 => k_is)
    (case l20 => k_is)
    (case c20 => k_is)
    (case k20 => k_is)
    (case a21 => k_is)
    (case l21 => k_is)
    (case c21 => k_is)
    (case k21 => k_is)
    (case a22 => k_is)
    (case l22 => k_is)
    (case c22 => k_is)
    (case k22 => k_is)
    (case a23 => k_is)
    (case l23 => k_is)
    (case c23 => k_is)
    (case k23 => k_is)
    (case a24 => k_is)
    (case l24 => k_is)
    (case c24 => k_is)
    (case k24 => k_is)
    (case a25 => k_is)
    (case l25 => k_is)
    (case c25 => k_is)
    (case k25 => k_is)
    (case a26 => k_is)
    (case l26 => k_is)
    (case c26 => k_is)
    (case k26 => k_is)
    (case a27 => k_is)
    (case l27 => k_is)
    (case c27 => k_is)
    (case k27 => k_is)
    (case a28 => k_is)
    (case l28 => k_is)
    (case c28 => k_is)
    (case k28 => k_is)
    (case a29 => k_is)
    (case l29 => k_is)
    (case c29 => k_is)
    (case k29 => k_is)
    (case a30 => k_is)
    (case l30 => k_is)
    (case c30 => k_is)
    (case k30 => k_is)
    (case a31 => k_is)
    (case l31 => k_is)
    (case c31 => k_is)
    (case k31 => k_is)
    (case a32 => k_is)
    (case l32 => k_is)
    (case c32 => k_is)
    (case k32 => k_is)
    (case a33 => k_is)
    (case l33 => k_is)
    (case c33 => k_is)
    (case k33 => k_is)
    (case a34 => k_is)
    (case l34 => k_is)
    (case c34 => k_is)
    (case k34 => k_is)
    (case a35 => k_is)
    (case l35 => k_is)
    (case c35 => k_is)
    (case k35 => k_is)
    (case a36 => k_is)
    (case l36 => k_is)
    (case c36 => k_is)
    (case k36 => k_is)
    (case a37 => k_is)
    (case l37 => k_is)
    (case c37 => k_is)
    (case k37 => k_is)
    (case z1 => k_is)
    (case z2 => k_is)
    (case z3 => k_is)
    (case z4 => k_is)
    (case z5 => k_is)
    (case z6 => k_is)
    (case z7 => k_is)
    (case z8 => k_is)
    (case z9 => k_is)
    (case z10 => k_is)
    (case z11 => k_is)
    (case z12 => k_is)
    (case z13 => k_is)
    (case z14 => k_is)
    (case nPl => k_is)
    (case nWi => k_is)
    (case nRo => k_is)
    (case pA => k_is)
    (case pL => k_is)
    (case pC => exact rfl)
    (case pD => exact rfl)
    (case pS => decide +kernel)
