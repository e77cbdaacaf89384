import PyProof.Rows.All
import Wide.All
import OpenK.AllK
import Wide.FinOn
import PyProof.EqAt
import PyProof.EqKinds
import PyProof.TupleCall
import KE.GoesMore
import KE.GoesEnum
import HandS.ForMost
import HandS.Wide
import HandS.Codes
import HandS.Style
import HandS.TupAny
import HandS.IsInst
import HandS.Deep
import HandS.Defaults
import HandS.DictComp
import HandS.NoneIn
import HandS.Iter
import HandS.Star
import HandS.Star
import HandS.ExcInit
import HandS.ExcOwn
import HandS.WordsExc
import HandS.TryMany
import HandS.TryOnly
import HandS.ExcField
import HandS.ExcIs
import HandS.MakeKwOnly
import HandS.TupMul
import HandS.DictComp
import HandS.RaiseMore
import PySem.Challenge.RW_yearturned_k12_deeds_texts
set_option Elab.async false
set_option linter.all false
set_option maxRecDepth 100000
set_option maxHeartbeats 4000000
/-! ### rules that the layer lacks -/
namespace YR
open PySem PySem.SeqAt PyProof.Rows
open AutoSeq1 (wpAny_loadPart')
theorem typeCall_enum1 (a : Addr) : True := True.intro
set_option maxHeartbeats 1000000 in
theorem meets_enum_newT (l : Addr) (items : Array Value) :
    Meets (Builtin.«enumerate.__new__» ⟨[.type "enumerate", .ref l], []⟩) (fun _ R s => s.heap.IsTuple l items ∧
      R (.ok (.ret (.ref (s.heap.push { cls := .type "tuple_iterator", data := .fields #[.ref l, .int 0 0] }).objs.size)))
        { s with heap := (s.heap.push { cls := .type "tuple_iterator", data := .fields #[.ref l, .int 0 0] }).push { cls := .type "enumerate", data := .fields #[.none, .bool false, .ref s.heap.objs.size, rawInt 0, .none, .none] } }) :=
  .of_wp fun prog w A R s h => by
    obtain ⟨hp, g, d, tk, os⟩ := s; obtain ⟨h1, h⟩ := h
    have hsub := sub_enumerate
    have q1 : ∀ {A' : Around} {E : Value → Shared → Prop} {Q : Value → Shared → Prop}, Q (.ref hp.objs.size) ⟨hp.push { cls := .type "tuple_iterator", data := .fields #[.ref l, .int 0 0] }, g, d, tk, os⟩ → wpAny (model prog w) A' (pyIter (.ref l)) Q E ⟨hp, g, d, tk, os⟩ :=
      fun q => wpAny_pyIter_tuple (s := ⟨hp, g, d, tk, os⟩) h1 q
    wp_walk using q1
    refine wpAny_stack_any fun st => wpAny_pure ?_
    split
    · rename_i c _ _ _ _ _
      cases (c == Value.type "enumerate")
      · wp_walk using q1
        exact ⟨_, rfl, h⟩
      · wp_walk using q1
        exact ⟨_, rfl, h⟩
    · wp_walk using q1
      exact ⟨_, rfl, h⟩
section
variable {prog : Program} {w : World} {A : Around} {E : Value → Shared → Prop} {s : Shared}
theorem call_enumerate_tuple {l : Addr} {items : Array Value} {Q : Value → Shared → Prop} (hL : s.heap.IsTuple l items)
    (h : ∀ h', IsEnum h' (s.heap.objs.size + 1) s.heap.objs.size 0 .none → h'.IsTupleIter s.heap.objs.size l 0 → h'.objs.size = s.heap.objs.size + 2 →
      (∀ b o, s.heap.get? b = some o → h'.get? b = some o) → Q (.ref (s.heap.objs.size + 1)) { s with heap := h' }) :
    wpAny (model prog w) A (call (.type "enumerate") [.ref l]) Q E s := by
  refine callType_new F.called_enumerate (by decide) (F.typeCall_enumerate_1 _) (F.newCall_enumerate_1 _) (fun obj => F.args_object_init_2 obj _) F.entry_enumerate_new
    (meets_enum_newT l items) ⟨hL, ?_⟩
  have hz : (s.heap.push { cls := .type "tuple_iterator", data := .fields #[.ref l, .int 0 0] }).objs.size = s.heap.objs.size + 1 := Heap.size_push ..
  show _ ∧ _
  rw [hz]
  have he : IsEnum ((s.heap.push { cls := .type "tuple_iterator", data := .fields #[.ref l, .int 0 0] }).push { cls := .type "enumerate", data := .fields #[.none, .bool false, .ref s.heap.objs.size, rawInt 0, .none, .none] }) (s.heap.objs.size + 1) s.heap.objs.size 0 .none := by
    have := Heap.get?_push_size (s.heap.push { cls := .type "tuple_iterator", data := .fields #[.ref l, .int 0 0] }) (o := { cls := .type "enumerate", data := .fields #[.none, .bool false, .ref s.heap.objs.size, rawInt 0, .none, .none] }) rfl
    rw [hz] at this; exact this
  refine ⟨⟨_, he, rfl⟩, h _ he ⟨_, Heap.get?_push_of_some _ (Heap.get?_push_size _ rfl), rfl, rfl⟩ (by rw [Heap.size_push, hz]) fun b o x => Heap.get?_push_of_some _ (Heap.get?_push_of_some _ x)⟩
end
end YR
namespace L2
open PySem PySem.Spec PyProof.Rows
/-! ### ** of great ints -/
def CPowW (i j : Int) : Prop := 0 ≤ j ∧ ((i.natAbs.log2 : Int) + 1) * j ≤ 2 ^ 27
section
variable {X : Cx}
theorem op_powW : OpR X (binaryOp .Pow) (rI CPowW fun i j => .int (i ^ j.toNat)) := opI fun i j _ _ _ _ _ hc q => by
  refine PyProof.Rows.pow_int hc.1 ?_ q
  have h1 : (Builtin.Int.intBits i : Int) ≤ (i.natAbs.log2 : Int) + 1 := by
    unfold Builtin.Int.intBits
    split <;> omega
  exact Int.le_trans (Int.mul_le_mul_of_nonneg_right h1 hc.1) hc.2
end
theorem powW {i j : Int} {a : Nat} (h : i.natAbs < 2 ^ a) (h0 : 0 < a) (hj : 0 ≤ j) (hz : (a : Int) * j ≤ 2 ^ 27) : CPowW i j := by
  refine ⟨hj, ?_⟩
  have x := PySem.Flt.log2_lt_of h0 h
  have y : ((i.natAbs.log2 : Int) + 1) ≤ (a : Int) := by omega
  exact Int.le_trans (Int.mul_le_mul_of_nonneg_right y hj) hz
/-! ### x in a tuple of data -/
section
variable {X : Cx}
def rInTD (K : PySem.W.Frag) : R2 := fun x y H Q => ∃ d ds, Dp K H x d ∧ Dp K H y (.tuple ds) ∧ SeqAt.shaped d = true ∧ SeqAt.shaped (.tuple ds) = true ∧ Q (.bl (ds.any fun z => PyData.eqv z d)) H
def rNotInTD (K : PySem.W.Frag) : R2 := fun x y H Q => ∃ d ds, Dp K H x d ∧ Dp K H y (.tuple ds) ∧ SeqAt.shaped d = true ∧ SeqAt.shaped (.tuple ds) = true ∧ Q (.bl (!ds.any fun z => PyData.eqv z d)) H
theorem op_inTD (hu : X.A.units + 65 < cLine) : OpR X (compareOp .In) (rInTD X.K) := by
  intro pins s σ H x y v u Q I rx ry h
  obtain ⟨d, ds, hd, he, sd, se, q⟩ := h
  obtain ⟨as, r1⟩ := Dp.reads I d x v hd rx
  obtain ⟨bs, r2⟩ := Dp.reads I (.tuple ds) y u he ry
  exact SeqAt.in_tuple_reads r2 r1 (SeqAt.canLay_of_shaped se) (SeqAt.canLay_of_shaped sd) (room_in_shaped sd hu) ⟨.bl _, H, I, rfl, q⟩
theorem op_notInTD (hu : X.A.units + 65 < cLine) : OpR X (compareOp .NotIn) (rNotInTD X.K) := by
  intro pins s σ H x y v u Q I rx ry h
  obtain ⟨d, ds, hd, he, sd, se, q⟩ := h
  obtain ⟨as, r1⟩ := Dp.reads I d x v hd rx
  obtain ⟨bs, r2⟩ := Dp.reads I (.tuple ds) y u he ry
  exact SeqAt.notIn_tuple_reads r2 r1 (SeqAt.canLay_of_shaped se) (SeqAt.canLay_of_shaped sd) (room_in_shaped sd hu) ⟨.bl _, H, I, rfl, q⟩
end
/-! ### enumerate(tuple) -/
def IteT (K : PySem.W.Frag) (a : Addr) : It :=
  ⟨fun i H => ∃ (xs : List V) (x : V), SqT K H a xs ∧ xs[i]? = some x, fun i H v H' => ∃ T x, v = .ref T ∧ H T = none ∧ H' = upd H T (.tup [.int (i : Nat), x]) ∧ ∀ xs, SqT K H a xs → xs[i]? = some x, fun i H => ∃ xs : List V, SqT K H a xs ∧ xs.length = i⟩
theorem turn_enumT {P : Program} {w : World} {K : PySem.W.Frag} {elts : List Expr} {kk : Nat} {tpos : Pos} (a e it : Addr) :
    Turn P w K (.Tuple elts kk tpos) (IteT K a) [e, it] e (fun i h => (∃ old, IsEnum h e it ((i : Nat) : Int) old) ∧ h.IsTupleIter it a i ∧ e ≠ it) where
  mem := by simp
  obj := fun i h st b hb => by
    obtain ⟨⟨old, he⟩, ⟨o, ho, hc, hd⟩, _⟩ := st
    have e' : b = e ∨ b = it := by simpa using hb
    rcases e' with z | z
    · rw [z]; exact ⟨_, he, fun v q => nomatch q⟩
    · rw [z]; exact ⟨o, ho, fun v q => by rw [hd] at q; cases q⟩
  keep := fun i h h' st k => let ⟨⟨old, he⟩, hi, hne⟩ := st; ⟨⟨old, k e (by simp) _ he⟩, hi.at fun o q => k it (by simp) o q, hne⟩
  item := by
    intro X hP hw hK hc i pins s σ H E I hf st hg
    subst hP hw hK
    obtain ⟨⟨old, he⟩, hit, hne⟩ := st
    obtain ⟨xs, x, hq, hx⟩ := hg
    obtain ⟨its, rv, p, hz⟩ := I.tuple hq
    obtain ⟨u, hu, ru⟩ := rv.get hx
    have hel : e < s.heap.objs.size := Heap.lt_size he
    have hil : it < s.heap.objs.size := by obtain ⟨_, q, _⟩ := hit; exact Heap.lt_size q
    have hta : a ≠ it := by
      rintro rfl
      obtain ⟨o1, q1, q2, _⟩ := hit
      obtain ⟨o2, q3, q4, _⟩ := p
      rw [q1] at q3; cases q3
      rw [q2] at q4; simp at q4
    have hea : e ∉ [it, a] := by
      intro hb
      rcases List.mem_cons.mp hb with z | z
      · exact hne z
      · have z' : e = a := by simpa using z
        subst z'
        obtain ⟨o2, q3, q4, _⟩ := p
        rw [he] at q3; cases q3
        simp at q4
    have his : i < its.toArray.size := by
      have := (List.getElem?_eq_some_iff.mp hu).1
      simpa using this
    refine wpAny_pyNext_enum_itemD (Draws.tuple (show X.A.in1.handled = none from I.ok.hd hc) it a hta its.toArray) he ⟨hit, p⟩ his hne hea fun y h' tk hy ho hst hT hsz hk => ?_
    have ey : y = u := by
      have q1 : its.toArray[i]? = some y := hy
      have q2 : its.toArray[i]? = some u := by simpa using hu
      rw [q1] at q2; exact Option.some.inj q2
    subst ey
    refine ⟨_, rfl, wpAny_letOwnedTupleGo_enum (s := { s with heap := h', toks := tk + 1 }) ho fun h'' he' sb => ?_⟩
    have hT2 : h''.get? s.heap.objs.size = some { cls := .type "tuple", data := .seq #[.int i tk, y] } := (sb.2 _ (Nat.ne_of_gt hel)).trans hT
    have new : ObjOk X.prog X.w (upd H s.heap.objs.size (.tup [.int (i : Nat), x])) h'' s.heap.objs.size (.tup [.int (i : Nat), x]) :=
      ⟨by show 2 ≤ sizeLine; decide, [.int i tk, y], .cons ⟨_, rfl⟩ (.cons ru .nil), ⟨_, hT2, rfl, _, rfl⟩⟩
    have I1 : Inv X pins σ (upd H s.heap.objs.size (.tup [.int (i : Nat), x])) { s with heap := h'', toks := tk + 1 } :=
      I.turnedNew (ch := [e, it]) (fun b ob hb q => (sb.2 b (fun z => hb (by simp [z]))).trans (hk b ob (fun z => hb (by simp [z])) (fun z => hb (by simp [z])) q)) hf (Nat.le_refl _) new
    refine ⟨.ref s.heap.objs.size, _, I1, rfl, ⟨_, x, rfl, I.hok.fresh (Nat.le_refl _), rfl, fun ys hy => by rw [I.tuple_inj hy hq]; exact hx⟩, ⟨⟨y, ?_⟩, hst.1.at fun o q => (sb.2 it (Ne.symm hne)).trans q, hne⟩, fun b hb => ?_⟩
    · have e1 : ((i + 1 : Nat) : Int) = (i : Int) + 1 := by omega
      rw [e1]; exact he'
    · have hb' : b < s.heap.objs.size := by
        have e' : b = e ∨ b = it := by simpa using hb
        rcases e' with z | z
        · rw [z]; exact hel
        · rw [z]; exact hil
      rw [upd_ne (Nat.ne_of_lt hb')]
      exact (hf b hb).1
  done := by
    intro X hP hw hK hc i pins s σ H E I hf st hg
    subst hP hw hK
    obtain ⟨⟨old, he⟩, hit, hne⟩ := st
    obtain ⟨xs, hq, hx⟩ := hg
    obtain ⟨its, rv, p, hz⟩ := I.tuple hq
    obtain ⟨f0, f1, f2, f3, f4, f5⟩ := hf it (by simp)
    have hl := rv.length
    have hta : a ≠ it := by
      rintro rfl
      obtain ⟨o1, q1, q2, _⟩ := hit
      obtain ⟨o2, q3, q4, _⟩ := p
      rw [q1] at q3; cases q3
      rw [q2] at q4; simp at q4
    have D := Draws.tuple (prog := X.prog) (w := X.w) (show X.A.in1.handled = none from I.ok.hd hc) it a hta its.toArray
    have hit' : s.heap.IsTupleIter it a its.toArray.size := by
      have z : its.toArray.size = i := by simp; omega
      rw [z]; exact hit
    exact wpAny_pyNext_enum_endD D he ⟨hit', p⟩ fun h' eb => ⟨rfl, I.turned (t' := s.toks) (fun b o hb q => eb b o hb q) f0 f1 f3 f4 f5⟩
  self := fun A i s Q E st h => let ⟨⟨_, he⟩, _⟩ := st; wpAny_pyIter_enum he h
def iEnumT (K : PySem.W.Frag) (ta : TA) : TI := fun σ H R => ta σ H fun vs H1 => ∃ a xs, vs = [.ref a] ∧ SqT K H1 a xs ∧ R (IteT K a) H1
theorem pi_enumT {X : Cx} {e : Expr} {ta : TA} {p pos tpos : Pos} {elts : List Expr} {kk : Nat} (hg : Gl X "enumerate") (hm : X.mg "enumerate" = none) (ha : PA X [e] ta) (hs : starEach [e] X.env = [(false, eval e X.env)] := by rfl) :
    PI X (.Tuple elts kk tpos) (.Call (.Name "enumerate" p) [e] [] pos) (iEnumT X.K ta) := by
  refine ⟨fun pins s σ H R I h => ?_⟩
  refine Call_ (ld_blt I hg hm boot_enumerate (PyProof.Rows.callWith_type1 (thn (ha.run pos pins s σ H _ I h) fun us s1 ⟨vs, H1, I1, r1, q1⟩ => ?_) hs rfl))
  obtain ⟨a, xs, ex, hq, q⟩ := q1
  subst ex
  cases r1 with
  | cons r rr =>
    cases rr
    cases r
    obtain ⟨its, rv, p', hz⟩ := I1.tuple hq
    refine YR.call_enumerate_tuple (show s1.heap.IsTuple a its.toArray from p') fun h' he hit hsz hk => wpAny_pyIter_enum he ?_
    have I2 : Inv X pins σ H1 { s1 with heap := h' } := I1.kept (t' := s1.toks) hk
    refine ⟨s1.heap.objs.size + 1, [s1.heap.objs.size + 1, s1.heap.objs.size], _, _, H1, rfl, I2, turn_enumT a (s1.heap.objs.size + 1) s1.heap.objs.size, ⟨⟨.none, he⟩, hit, Nat.succ_ne_self _⟩, fun b hb => ?_, q⟩
    have e' : b = s1.heap.objs.size + 1 ∨ b = s1.heap.objs.size := by simpa using hb
    have hle : s1.heap.objs.size ≤ b := by
      rcases e' with z | z
      · rw [z]; exact Nat.le_add_right _ _
      · rw [z]; exact Nat.le_refl _
    exact I1.fpOk hle (I1.hok.fresh hle)
theorem for_enumT {K : PySem.W.Frag} {a : Addr} {xs : List V} {g : TG} {tb : TS} {D : Ends} {σ : St} {H : Hp} (Pv : Nat → St → Hp → Prop) (h0 : Pv 0 σ H) (hl : ∀ i σ H, i ≤ xs.length → Pv i σ H → SqT K H a xs)
    (hs : ∀ i x T σ H, xs[i]? = some x → Pv i σ H → H T = none → g (.ref T) σ (upd H T (.tup [.int (i : Nat), x])) fun σ2 H2 => tb { D with nx := Pv (i + 1), ct := Pv (i + 1), bk := D.nx } σ2 H2) (hd : ∀ σ H, Pv xs.length σ H → D.nx σ H) :
    ∃ W : Nat → Nat → St → Hp → Prop, (∃ m, W 0 m σ H) ∧ ∀ i m σ H, W i m σ H →
      ((IteT K a).stop i H ∧ D.nx σ H) ∨ ((IteT K a).go i H ∧ ∃ N : St → Hp → Prop, (∀ σ' H', N σ' H' → ∃ m', m' < m ∧ W (i + 1) m' σ' H') ∧ ∀ x H', (IteT K a).yld i H x H' → g x σ H' fun σ2 H2 => tb { D with nx := N, ct := N, bk := D.nx } σ2 H2) := by
  refine ⟨fun i m σ H => m = xs.length - i ∧ i ≤ xs.length ∧ Pv i σ H, ⟨xs.length, by simp, Nat.zero_le _, h0⟩, ?_⟩
  rintro i m σ H ⟨rfl, hi, p⟩
  have q := hl i σ H hi p
  by_cases hlt : i < xs.length
  · refine .inr ⟨⟨xs, xs[i], q, by simp [hlt]⟩, Pv (i + 1), fun σ' H' p' => ⟨xs.length - (i + 1), by omega, rfl, hlt, p'⟩, fun x H' y => ?_⟩
    obtain ⟨T, x', rfl, hT, rfl, hx⟩ := y
    exact hs i x' T σ H (hx xs q) p hT
  · have e : i = xs.length := by omega
    subst e
    exact .inl ⟨⟨xs, q, rfl⟩, hd σ H p⟩
/-! ### len(o), o[i], x in o by the class's own defs -/
section
variable {X : Cx} {CX : CXT} {k : Nat} {f C : Addr} {fd : FuncData} {ps : List Str} {sp : Sp} {E : XK}
theorem run_in1 {pins : List (Addr × Obj)} {σ : St} {H : Hp} {s : Shared} {Q : VK} {us : List Value} {vs : List V} (F : FnOk X.prog X.w X.K X.mg X.base CX k f fd ps sp) (hr : Room (k + 1) X.A) (hb : Binds X.K fd ps []) (hx : Passes CX X E)
    (I : Inv X pins σ H s) (r : Vals vs us) (h : sp vs H Q E) : wpAny (model X.prog X.w) X.A.in1 (call (.ref f) us) (EP X pins σ Q) X.xe s := by
  have hl : us.length = ps.length := by rw [← r.length]; exact F.len _ _ _ _ h
  refine wpAny_call (codeAny_mono (F.run X.A.in1 X.stack s H ⟨us, []⟩ us vs Q E hr.in1 I.env0.in1 (by have q := hb s us I.kIn (by simpa using hl); simpa using q) r h) fun r s' hq => ?_)
  cases r with
  | error e => exact hx pins σ H s e s' I hq
  | ok fl =>
    cases fl with
    | ret u => exact I.after hq
    | next => exact False.elim hq
    | brk => exact False.elim hq
    | cont => exact False.elim hq
theorem ins_at {pins : List (Addr × Obj)} {σ : St} {H : Hp} {s : Shared} {a dx : Addr} {fs : List (Str × V)} (I : Inv X pins σ H s) (e : H a = some (.ins C dx fs)) : ∃ od, PySem.W.InstAt s.heap a (PySem.W.instObj C dx) C (some od) := by
  obtain ⟨mA, O, _⟩ := ins_get I.hok e
  obtain ⟨od, J, _⟩ := O.look
  exact ⟨od, J⟩
/-- what a class says of one of its special defs -/
structure Spc (K : PySem.W.Frag) (C : Addr) (m : Str) (f : Addr) : Prop where
  at_ : PySem.W.findIn K (.ref C) m = some (some (.ref f))
  fn : PySem.W.isFn K (.ref f) = true
def rLenO (C : Addr) (sp : Sp) (E : XK) : List V → Hp → VK → Prop := fun xs H Q => ∃ a dx fs, xs = [.ref a] ∧ H a = some (.ins C dx fs) ∧ sp [.ref a] H (fun v H' => ∃ n : Int, v = .int n ∧ 0 ≤ n ∧ n < 2 ^ 63 ∧ Q (.int n) H') E
theorem call_lenO (hs : Spc X.K C "__len__" f) (F : FnOk X.prog X.w X.K X.mg X.base CX k f fd ps sp) (hr : Room (k + 1) X.A) (hb : Binds X.K fd ps []) (hx : Passes CX X E) : CallR X (.builtin "len") (rLenO C sp E) := by
  intro pins s σ H xs us Q I r h
  obtain ⟨a, dx, fs, rfl, e, h⟩ := h
  obtain ⟨u, rfl, ru⟩ := vals1 r
  cases ru
  obtain ⟨od, J⟩ := ins_at I e
  obtain ⟨m, F0⟩ := I.fr
  refine PySem.W.len_K F0 I.ok.mod.kin J hs.at_ hs.fn (wpAny_mono (run_in1 F hr hb hx I (vs := [.ref a]) (.cons rfl .nil) h) (fun v s' q => ?_) fun _ _ z => z)
  obtain ⟨v', H', I', rv, n, rfl, h0, h1, q⟩ := q
  obtain ⟨t, rfl⟩ := rv
  exact ⟨⟨h0, h1⟩, .int n, H', I'.tok _, ⟨_, rfl⟩, q⟩
theorem op_inO (hs : Spc X.K C "__contains__" f) (F : FnOk X.prog X.w X.K X.mg X.base CX k f fd ps sp) (hr : Room k X.A) (hb : Binds X.K fd ps []) (hx : Passes CX X E) :
    OpR X (compareOp .In) (fun x y H Q => ∃ a dx fs, y = .ref a ∧ H a = some (.ins C dx fs) ∧ sp [.ref a, x] H (fun v H' => ∃ b, v = .bl b ∧ Q (.bl b) H') E) := by
  intro pins s σ H x y v u Q I rx ry h
  obtain ⟨a, dx, fs, rfl, e, h⟩ := h
  cases ry
  obtain ⟨od, J⟩ := ins_at I e
  obtain ⟨m, F0⟩ := I.fr
  refine PySem.W.in_K F0 I.ok.mod.kin J hs.at_ hs.fn (wpAny_mono (run_fn F hr hb .nil hx I (vs := [.ref a, x]) (us := [.ref a, v]) (.cons rfl (.cons rx .nil)) h) (fun v s' q => ?_) fun _ _ z => z)
  obtain ⟨v', H', I', rv, b, rfl, q⟩ := q
  cases rv
  exact wpAny_truthy_bool ⟨.bl b, H', I', rfl, q⟩
def rIxO (C : Addr) (sp : Sp) (E : XK) : R2 := fun x y H Q => ∃ a dx fs, x = .ref a ∧ H a = some (.ins C dx fs) ∧ sp [.ref a, y] H Q E
theorem pe_ixO {a b : Expr} {ta tb : TE} {pos : Pos} (hs : Spc X.K C "__getitem__" f) (hf : PySem.W.fnIn X.K f = true) (F : FnOk X.prog X.w X.K X.mg X.base CX k f fd ps sp) (hr : Room (k + 1) X.A) (hb : Binds X.K fd ps []) (hx : Passes CX X E)
    (ha : PE X a ta) (hb' : PE X b tb) (hsl : ∀ o i, subscripted b true o i = runValue (.builtin "lifetime.subscript" ⟨[o, i], []⟩)) : PE X (.Subscript a b pos) (tOp (rIxO C sp E) ta tb) := by
  refine ⟨fun pins s σ H Q I h => ?_⟩
  refine Subscript_ (binT ha hb' I h fun v u s2 x y H2 I2 rx ry q => ?_)
  obtain ⟨o, dx, fs, rfl, e, h⟩ := q
  cases rx
  obtain ⟨od, J⟩ := ins_at I2 e
  obtain ⟨m, F0⟩ := I2.fr
  exact PySem.W.sub_K F0 I2.ok.mod.kin J hs.at_ hf hs.fn (run_in1 F hr hb hx I2 (vs := [.ref o, y]) (us := [.ref o, u]) (.cons rfl (.cons ry .nil)) h) (hsl _ _)
/-- the program's own def stands there -/
theorem Fun.fnIn {K : PySem.W.Frag} {x qual : Str} {st : Stmt} {f : Addr} {fd : FuncData} (F : Fun K x qual st f fd) : PySem.W.fnIn K f = true := by
  obtain ⟨oc, od, kV, doc, pm, an, cdv, ct, osl, rfl, lk, hcd⟩ := F.ex
  unfold PySem.W.fnIn
  rw [lk] <;> rfl
end
end L2

namespace L2
open PySem PySem.Spec PyProof.Rows
theorem hu65 {k : Nat} {A : Around} (hr : Room k A) : A.units + 65 < cLine := by have := hr.un; omega
structure InsI (K : PySem.W.Frag) (C : Addr) : Prop where
  cl : Cls K C
  ha : PySem.W.findIn K (.ref C) "__class__" = some (some (.builtin "object.__class__"))
  hn : PySem.W.specialIn K (.builtin "object.__class__") "__get__" = some (some (.builtin "getset_descriptor.__get__"))
  htk : PySem.W.takesIn K (.builtin "object.__class__") = some true
  hm : PySem.W.mroIn K C (.type "object") = some true
theorem kit_self {K : PySem.W.Frag} {C : Addr} : PySem.W.kitOne K (.ref C) (.ref C) = some true := by
  unfold PySem.W.kitOne
  rw [if_pos (by simp)]
theorem InsI.ty {K : PySem.W.Frag} {H : Hp} {a C dx : Addr} {fs : List (Str × V)} (i : InsI K C) (e : H a = some (.ins C dx fs)) : TyX K H (.ref a) (.ref C) := .base (.ins e i.cl i.ha i.hn i.htk i.hm)
/-! ### heaps that have grown; one list changed -/
section
variable {K : PySem.W.Frag} {H H' H1 H2 : Hp} {a p : Addr} {o u : HO} {xs ys : List V} {v : V} {d : PyData} {ds : List PyData}
theorem Same.new (h : H p = none) : Same H (upd H p o) := fun b w e => by rw [upd_ne (ne_of_none e h)]; exact e
theorem Same.add (s : Same H H1) (h : H1 p = none) : Same H (upd H1 p o) := s.trans (Same.new h)
theorem Same.mut (s : Same H H1) (h : H p = none) : Same H (upd H1 p o) := fun b w e => by rw [upd_ne (ne_of_none e h)]; exact s b w e
theorem Same.rd (s : Same H H') (h : Rd H a u) : Rd H' a u := by
  rcases h with h | ⟨o, h⟩
  · exact .inl (s _ _ h)
  · exact .inr ⟨o, s _ _ h⟩
theorem Same.sqT (s : Same H H') (h : SqT K H a xs) : SqT K H' a xs := by
  rcases h with h | h
  · exact .inl (s.rd h)
  · exact .inr h
mutual
theorem Same.dp (s : Same H H') : ∀ {d : PyData} {v : V}, Dp K H v d → Dp K H' v d
  | _, _, .non => .non
  | _, _, .bl b => .bl b
  | _, _, .int i => .int i
  | _, _, .str x => .str x
  | _, _, .lst h1 h2 => .lst (s.seq h1) (Same.dpAll s h2)
  | _, _, .tup h1 h2 => .tup (s.sqT h1) (Same.dpAll s h2)
theorem Same.dpAll (s : Same H H') : ∀ {ds : List PyData} {vs : List V}, DpAll K H vs ds → DpAll K H' vs ds
  | _, _, .nil => .nil
  | _, _, .cons h1 h2 => .cons (Same.dp s h1) (Same.dpAll s h2)
end
/-! no lists within -/
mutual
def imm : PyData → Bool
  | .tuple xs => immAll xs
  | .list _ => false
  | .dict _ => false
  | _ => true
def immAll : List PyData → Bool
  | [] => true
  | d :: ds => imm d && immAll ds
end
/-- the tuples stand -/
def Tups (H H' : Hp) : Prop := (∀ a xs, H a = some (.tup xs) → H' a = some (.tup xs)) ∧ ∀ a o xs, H a = some (.frz o (.tup xs)) → H' a = some (.frz o (.tup xs))
theorem Tups.refl (H : Hp) : Tups H H := ⟨fun _ _ h => h, fun _ _ _ h => h⟩
theorem Tups.trans (a : Tups H H1) (b : Tups H1 H2) : Tups H H2 := ⟨fun x y h => b.1 x y (a.1 x y h), fun x y z h => b.2 x y z (a.2 x y z h)⟩
theorem Same.tups (s : Same H H') : Tups H H' := ⟨fun a xs h => s _ _ h, fun a o xs h => s _ _ h⟩
theorem Tups.mut (h : Mut (H p)) : Tups H (upd H p o) := by
  refine ⟨fun b xs e => ?_, fun b u xs e => ?_⟩
  · rw [upd_ne]
    · exact e
    · rintro rfl; rw [e] at h; exact h
  · rw [upd_ne]
    · exact e
    · rintro rfl; rw [e] at h; exact h
theorem Tups.sqT (s : Tups H H') (h : SqT K H a xs) : SqT K H' a xs := by
  rcases h with (h | ⟨o, h⟩) | h
  · exact .inl (.inl (s.1 _ _ h))
  · exact .inl (.inr ⟨o, s.2 _ _ _ h⟩)
  · exact .inr h
mutual
theorem Tups.dp (s : Tups H H') : ∀ {d : PyData} {v : V}, imm d = true → Dp K H v d → Dp K H' v d
  | _, _, _, .non => .non
  | _, _, _, .bl b => .bl b
  | _, _, _, .int i => .int i
  | _, _, _, .str x => .str x
  | _, _, q, .lst h1 h2 => by simp [imm] at q
  | _, _, q, .tup h1 h2 => .tup (s.sqT h1) (Tups.dpAll s (by simpa [imm] using q) h2)
theorem Tups.dpAll (s : Tups H H') : ∀ {ds : List PyData} {vs : List V}, immAll ds = true → DpAll K H vs ds → DpAll K H' vs ds
  | _, _, _, .nil => .nil
  | _, _, q, .cons h1 h2 => .cons (Tups.dp s (by simp only [immAll, Bool.and_eq_true] at q; exact q.1) h1) (Tups.dpAll s (by simp only [immAll, Bool.and_eq_true] at q; exact q.2) h2)
end
/-- all but p stands as it stood, and the tuples -/
structure But (p : Addr) (H H' : Hp) : Prop where
  keep : ∀ b o, H b = some o → b ≠ p → H' b = some o
  tups : Tups H H'
theorem But.refl (p : Addr) (H : Hp) : But p H H := ⟨fun _ _ h _ => h, Tups.refl H⟩
theorem But.trans (a : But p H H1) (b : But p H1 H2) : But p H H2 := ⟨fun x y h n => b.keep x y (a.keep x y h n) n, a.tups.trans b.tups⟩
theorem Same.but (s : Same H H') : But p H H' := ⟨fun b o h _ => s b o h, s.tups⟩
theorem But.mut (h : Mut (H p)) : But p H (upd H p o) := ⟨fun b u e n => by rw [upd_ne n]; exact e, Tups.mut h⟩
theorem But.new {f : Addr} (b : But p H H1) (h : H f = none) (hm : H1 f = none ∨ Mut (H1 f)) : But p H (upd H1 f o) :=
  ⟨fun c u e n => by rw [upd_ne (ne_of_none e h)]; exact b.keep c u e n, b.tups.trans (hm.elim (fun h => (Same.new h).tups) Tups.mut)⟩
theorem But.free (b : But p H H1) (hp : p ≠ a) (h : H1 a = none) : H a = none := by
  cases e : H a with
  | none => rfl
  | some o => rw [b.keep a o e (Ne.symm hp)] at h; cases h
theorem But.same (s : Same H H1) (b : But p H1 H2) (h : H p = none) : Same H H2 := fun a o e => b.keep a o (s a o e) (ne_of_none e h)
theorem But.dp (b : But p H H') (hi : imm d = true) (h : Dp K H v d) : Dp K H' v d := b.tups.dp hi h
theorem But.dpAll {vs : List V} (b : But p H H') (hi : immAll ds = true) (h : DpAll K H vs ds) : DpAll K H' vs ds := b.tups.dpAll hi h
/-! ### data -/
theorem Dp.int_inv {i : Int} (h : Dp K H v (.int i)) : v = .int i := by cases h; rfl
theorem Dp.str_inv {i : Str} (h : Dp K H v (.str i)) : v = .str i := by cases h; rfl
theorem Dp.bl_inv {i : Bool} (h : Dp K H v (.bool i)) : v = .bl i := by cases h; rfl
theorem Dp.non_inv (h : Dp K H v .none) : v = .non := by cases h; rfl
theorem Dp.tup_inv (h : Dp K H v (.tuple ds)) : ∃ a xs, v = .ref a ∧ SqT K H a xs ∧ DpAll K H xs ds := by
  cases h with
  | tup h1 h2 => exact ⟨_, _, rfl, h1, h2⟩
theorem Dp.lst_inv (h : Dp K H v (.list ds)) : ∃ a xs, v = .ref a ∧ SqL K H a xs ∧ DpAll K H xs ds := by
  cases h with
  | lst h1 h2 => exact ⟨_, _, rfl, h1, h2⟩
theorem DpAll.length : ∀ {xs : List V} {ds : List PyData}, DpAll K H xs ds → xs.length = ds.length
  | _, _, .nil => rfl
  | _, _, .cons _ h => by rw [List.length_cons, List.length_cons, DpAll.length h]
theorem DpAll.get : ∀ {xs : List V} {ds : List PyData} {i : Nat} {d : PyData}, DpAll K H xs ds → ds[i]? = some d → ∃ v, xs[i]? = some v ∧ Dp K H v d
  | _, _, _, _, .nil, e => by simp at e
  | _, _, 0, _, .cons h _, e => by simp at e; subst e; exact ⟨_, rfl, h⟩
  | _, _, i + 1, d, .cons _ t, e => by
    obtain ⟨v, h1, h2⟩ := DpAll.get (i := i) (d := d) t (by simpa using e)
    exact ⟨v, by simpa using h1, h2⟩
theorem DpAll.get' : ∀ {xs : List V} {ds : List PyData} {i : Nat} {v : V}, DpAll K H xs ds → xs[i]? = some v → ∃ d, ds[i]? = some d ∧ Dp K H v d
  | _, _, _, _, .nil, e => by simp at e
  | _, _, 0, _, .cons h _, e => by simp at e; subst e; exact ⟨_, rfl, h⟩
  | _, _, i + 1, v, .cons _ t, e => by
    obtain ⟨d, h1, h2⟩ := DpAll.get' (i := i) (v := v) t (by simpa using e)
    exact ⟨d, by simpa using h1, h2⟩
theorem DpAll.append : ∀ {xs ys : List V} {ds es : List PyData}, DpAll K H xs ds → DpAll K H ys es → DpAll K H (xs ++ ys) (ds ++ es)
  | _, _, _, _, .nil, h => h
  | _, _, _, _, .cons h t, h' => .cons h (DpAll.append t h')
theorem DpAll.take : ∀ {xs : List V} {ds : List PyData} (n : Nat), DpAll K H xs ds → DpAll K H (xs.take n) (ds.take n)
  | _, _, 0, _ => .nil
  | _, _, _ + 1, .nil => .nil
  | _, _, n + 1, .cons r t => .cons r (DpAll.take n t)
theorem DpAll.drop : ∀ {xs : List V} {ds : List PyData} (n : Nat), DpAll K H xs ds → DpAll K H (xs.drop n) (ds.drop n)
  | _, _, 0, r => r
  | _, _, _ + 1, .nil => .nil
  | _, _, n + 1, .cons _ t => DpAll.drop n t
theorem DpAll.one (h : Dp K H v d) : DpAll K H [v] [d] := .cons h .nil
theorem DpAll.inv1 (h : DpAll K H xs [d]) : ∃ v, xs = [v] ∧ Dp K H v d := by
  cases h with
  | cons h t => cases t; exact ⟨_, rfl, h⟩
theorem Dp.tupOf (h : H a = some (.tup xs)) (hd : DpAll K H xs ds) : Dp K H (.ref a) (.tuple ds) := .tup (SqT.of h) hd
theorem Dp.lstOf (h : H a = some (.lst xs)) (hd : DpAll K H xs ds) : Dp K H (.ref a) (.list ds) := .lst (SqL.of h) hd
/-! ### types of data -/
def tyD : PyData → String
  | .none => "NoneType"
  | .bool _ => "bool"
  | .int _ => "int"
  | .str _ => "str"
  | .list _ => "list"
  | .tuple _ => "tuple"
  | .dict _ => "dict"
theorem Dp.ty (h : Dp K H v d) : TyX K H v (.type (tyD d)) := by
  cases h with
  | non => exact .base .non
  | bl b => exact .base (.bl b)
  | int i => exact .base (.int i)
  | str x => exact .base (.str x)
  | lst h1 h2 =>
    rcases h1 with (h1 | ⟨o, h1⟩) | ⟨o, its, n, h1, h3, _⟩
    · exact .base (.lst h1)
    · exact .base (.frz h1)
    · exact .kList h1 h3
  | tup h1 h2 =>
    rcases h1 with (h1 | ⟨o, h1⟩) | ⟨o, its, n, h1, h3, _⟩
    · exact .base (.tup h1)
    · exact .fTuple h1
    · exact .kTuple h1 h3
/-- isinstance of a built-in type, by names -/
def isTy (t c : String) : Bool := t == c || (t == "bool" && c == "int")
theorem kit_tab : ∀ t ∈ ["NoneType", "bool", "int", "str", "list", "tuple", "dict"], ∀ c ∈ ["bool", "int", "str", "list", "tuple", "dict"], kitB t c = some (isTy t c) := by decide +kernel
theorem tyD_mem (d : PyData) : tyD d ∈ ["NoneType", "bool", "int", "str", "list", "tuple", "dict"] := by cases d <;> simp [tyD]
theorem kit_d (d : PyData) {c : String} (h : c ∈ ["bool", "int", "str", "list", "tuple", "dict"]) : PySem.W.kitOne K (.type (tyD d)) (.type c) = some (isTy (tyD d) c) := kit_ty (kit_tab _ (tyD_mem d) _ h)
theorem kit_t {t c : String} (ht : t ∈ ["NoneType", "bool", "int", "str", "list", "tuple", "dict"]) (h : c ∈ ["bool", "int", "str", "list", "tuple", "dict"]) : PySem.W.kitOne K (.type t) (.type c) = some (isTy t c) := kit_ty (kit_tab _ ht _ h)
end
section
variable {K : PySem.W.Frag} {H : Hp} {v : V}
theorem TyX.int_inv (h : TyX K H v (.type "int")) : ∃ i, v = .int i := by
  generalize e : Value.type "int" = t at h
  cases h with
  | base h => cases h <;> first | exact ⟨_, rfl⟩ | (simp at e)
  | _ => simp at e
end
/-! ### isinstance of data -/
section
variable {X : Cx}
/-- isinstance(x, T): T a built-in type's name; x a datum, or a thing of a known type -/
def rIsD (K : PySem.W.Frag) : List V → Hp → VK → Prop := fun xs H Q => ∃ (x : V) (t c : String), xs = [x, .ty c] ∧ TyX K H x (.type t) ∧ t ∈ ["NoneType", "bool", "int", "str", "list", "tuple", "dict"] ∧ c ∈ ["bool", "int", "str", "list", "tuple", "dict"] ∧ Q (.bl (isTy t c)) H
theorem call_isD : CallR X (.builtin "isinstance") (rIsD X.K) := by
  intro pins s σ H xs us Q I r h
  obtain ⟨x, t, c, rfl, ty, ht, hc, q⟩ := h
  exact call_isi pins s σ H _ us Q I r ⟨x, .ty c, .type t, .type c, isTy t c, rfl, .ty c, ty, kit_t ht hc, q⟩
end
section
variable {X : Cx}
def rIsTD (K : PySem.W.Frag) : List V → Hp → VK → Prop := fun xs H Q => ∃ (x : V) (tp : Addr) (cs : List String) (t : String), xs = [x, .ref tp] ∧ H tp = some (.tup (cs.map V.ty)) ∧ TyX K H x (.type t) ∧ t ∈ ["NoneType", "bool", "int", "str", "list", "tuple", "dict"] ∧
  (∀ c ∈ cs, c ∈ ["bool", "int", "str", "list", "tuple", "dict"]) ∧ Q (.bl (cs.any (isTy t))) H
theorem kitAny_t {K : PySem.W.Frag} {t : String} (ht : t ∈ ["NoneType", "bool", "int", "str", "list", "tuple", "dict"]) : ∀ {cs : List String}, (∀ c ∈ cs, c ∈ ["bool", "int", "str", "list", "tuple", "dict"]) → PySem.W.kitAny K (.type t) (cs.map Value.type) = some (cs.any (isTy t))
  | [], _ => rfl
  | c :: cs, h => by
    rw [List.map_cons, List.any_cons]
    refine kitAny_cons (kit_t ht (h c (by simp))) (fun e => ?_) fun e => by rw [e, Bool.true_or]
    rw [e, Bool.false_or]
    exact kitAny_t ht fun x hx => h x (List.mem_cons_of_mem c hx)
theorem clsv_map : ∀ cs : List String, Paired ClsV (cs.map V.ty) (cs.map Value.type)
  | [] => .nil
  | c :: cs => .cons (.ty c) (clsv_map cs)
theorem call_isTDK (K : PySem.W.Frag) (hK : X.K = K := by rfl) : CallR X (.builtin "isinstance") (rIsTD K) := by
  subst hK
  intro pins s σ H xs us Q I r h
  obtain ⟨x, tp, cs, t, rfl, hp, ty, ht, hc, q⟩ := h
  exact call_isiT pins s σ H _ us Q I r ⟨x, tp, _, .type t, _, _, rfl, hp, clsv_map cs, ty, kitAny_t ht hc, q⟩
end
/-! ### the rules with the written part named -/
section
variable {X : Cx} {a b e o : Expr} {ta tb te to : TE} {pos : Pos}
theorem ix_listK (K : PySem.W.Frag) (hK : X.K = K := by rfl) : IxR X (rIxL K) := by subst hK; exact ix_list
theorem ix_tupK (K : PySem.W.Frag) (hK : X.K = K := by rfl) : IxR X (rIxT K) := by subst hK; exact ix_tup
theorem ix_seqK (K : PySem.W.Frag) (hK : X.K = K := by rfl) : IxR X (rIx K) := by subst hK; exact ix_seq
theorem sl_listK (K : PySem.W.Frag) (hK : X.K = K := by rfl) : SlR X (rSlL K) := by subst hK; exact sl_list
theorem sl_tupK (K : PySem.W.Frag) (hK : X.K = K := by rfl) : SlR X (rSlA K) := by subst hK; exact sl_tupA
theorem op_catK (K : PySem.W.Frag) (hK : X.K = K := by rfl) : OpR X (binaryOp .Add) (rCatA K) := by subst hK; exact op_catA
theorem op_eqDK (K : PySem.W.Frag) (hu : X.A.units + 65 < cLine) (hK : X.K = K := by rfl) : OpR X (compareOp .Eq) (rEqD K) := by subst hK; exact op_eqD (by omega)
theorem op_neDK (K : PySem.W.Frag) (hu : X.A.units + 65 < cLine) (hK : X.K = K := by rfl) : OpR X (compareOp .NotEq) (rNeD K) := by subst hK; exact op_neD (by omega)
theorem op_inTDK (K : PySem.W.Frag) (hu : X.A.units + 65 < cLine) (hK : X.K = K := by rfl) : OpR X (compareOp .In) (rInTD K) := by subst hK; exact op_inTD hu
theorem op_notInTDK (K : PySem.W.Frag) (hu : X.A.units + 65 < cLine) (hK : X.K = K := by rfl) : OpR X (compareOp .NotIn) (rNotInTD K) := by subst hK; exact op_notInTD hu
theorem op_inDK (K : PySem.W.Frag) (hu : X.A.units + 65 < cLine) (hK : X.K = K := by rfl) : OpR X (compareOp .In) (rInD K) := by subst hK; exact op_inD hu
theorem op_notInDK (K : PySem.W.Frag) (hu : X.A.units + 65 < cLine) (hK : X.K = K := by rfl) : OpR X (compareOp .NotIn) (rNotInD K) := by subst hK; exact op_notInD hu
theorem op_in_seqK (K : PySem.W.Frag) (hK : X.K = K := by rfl) : OpR X (compareOp .In) (rIn K false) := by subst hK; exact op_in_seq
theorem op_notIn_seqK (K : PySem.W.Frag) (hK : X.K = K := by rfl) : OpR X (compareOp .NotIn) (rIn K true) := by subst hK; exact op_notIn_seq
def rLenY (K : PySem.W.Frag) : List V → Hp → VK → Prop := fun xs H Q => ∃ x n, xs = [x] ∧ LenV K x H n ∧ Q (.int n) H
theorem call_lenK (K : PySem.W.Frag) (hK : X.K = K := by rfl) : CallR X (.builtin "len") (rLenY K) := by subst hK; exact call_len
theorem call_isDK (K : PySem.W.Frag) (hK : X.K = K := by rfl) : CallR X (.builtin "isinstance") (rIsD K) := by subst hK; exact call_isD
theorem call_isiK1 (K : PySem.W.Frag) (hK : X.K = K := by rfl) : CallR X (.builtin "isinstance") (rIsi K) := by subst hK; exact call_isi
theorem call_isiTK (K : PySem.W.Frag) (hK : X.K = K := by rfl) : CallR X (.builtin "isinstance") (rIsiT K) := by subst hK; exact call_isiT
def rTupOf (K : PySem.W.Frag) : List V → Hp → VK → Prop := fun xs H Q => ∃ p ys, xs = [.ref p] ∧ ((SqL K H p ys ∧ ∀ l, H l = none → Q (.ref l) (upd H l (.tup ys))) ∨ (SqT K H p ys ∧ Q (.ref p) H))
theorem call_tupK (K : PySem.W.Frag) (hK : X.K = K := by rfl) : CallR X (.type "tuple") (rTupOf K) := by subst hK; exact call_tuple_of
def rLstOf (K : PySem.W.Frag) : List V → Hp → VK → Prop := fun xs H Q => ∃ p ys, xs = [.ref p] ∧ (SqL K H p ys ∨ SqT K H p ys) ∧ ∀ l, H l = none → Q (.ref l) (upd H l (.lst ys))
theorem call_lstK (K : PySem.W.Frag) (hK : X.K = K := by rfl) : CallR X (.type "list") (rLstOf K) := by subst hK; exact call_list_of
theorem cr_allK (K : PySem.W.Frag) (hc : X.calm = true) (hK : X.K = K := by rfl) : CallR X (.builtin "all") (rAll K) := by subst hK; exact cr_all hc
theorem cr_anyK (K : PySem.W.Frag) (hc : X.calm = true) (hK : X.K = K := by rfl) : CallR X (.builtin "any") (rAny K) := by subst hK; exact cr_any hc
theorem cr_sumK (K : PySem.W.Frag) (hc : X.calm = true) (hK : X.K = K := by rfl) : CallR X (.builtin "sum") (rSum K) := by subst hK; exact cr_sum hc
theorem pi_listK (K : PySem.W.Frag) {tg l : Expr} {tl : TE} (hl : PE X l tl) (hK : X.K = K := by rfl) : PI X tg l (iList K tl) := by subst hK; exact pi_list hl
theorem pi_tupK (K : PySem.W.Frag) {tg l : Expr} {tl : TE} (hl : PE X l tl) (hK : X.K = K := by rfl) : PI X tg l (iTup K tl) := by subst hK; exact pi_tup hl
theorem pg_tupK (K : PySem.W.Frag) {es : List Expr} {k : Nat} {t : TGs} {n : Nat} (hc : X.calm = true) (h : PGs X es t)
    (hn : (assignEach es X.env).length = n := by rfl) (hst : (assignEach es X.env).findIdx? (·.1) = none := by rfl) (hK : X.K = K := by rfl) : PG X (.Tuple es k pos) (gTup K n t) := by subst hK; exact pg_tup hc h hn hst
theorem pe_fldK (K : PySem.W.Frag) {f : Str} (he : PE X e ta) (hb : attributeBase e f X.env (eval e X.env) = eval e X.env) (hK : X.K = K := by rfl) : PE X (.Attribute e f pos) (tFld K ta f) := by subst hK; exact pe_fld he hb
theorem ps_fldK (K : PySem.W.Frag) {value : Expr} {tv : TE} {f : Str} {pos' : Pos} (ha : PE X o ta) (hv : PE X value tv) (hs : swapsWith value (some (.Attribute o f pos')) pos.line X.env = pure false) (hK : X.K = K := by rfl) : PS X (.Assign [.Attribute o f pos'] value pos) (sFld K ta tv f) := by
  subst hK; exact ps_fld ha hv hs
theorem pe_bmK (K : PySem.W.Frag) {es : List Expr} {t : TA} {name : Str} {apos cpos : Pos} {T id : String} {r : V → List V → Hp → VK → Prop} (pa : PlainAttrs T) (slot : Slot T name id) (hty : typeOf (.builtin id) = pure (.type "method_descriptor")) (hm : MtR X id r) (ho : PE X o to) (ha : PA X (e :: es) t)
    (hK : X.K = K := by rfl) (h : PE X o to → PA X (e :: es) t → PE X (.Call (.Attribute o name apos) (e :: es) [] cpos) (tBM X.K T r to t) := by intro h1 h2; exact pe_bm (by assumption) (by assumption) (by assumption) (by assumption) h1 h2) : PE X (.Call (.Attribute o name apos) (e :: es) [] cpos) (tBM K T r to t) := by
  subst hK; exact h ho ha
end
end L2

namespace L2
open PySem PySem.Spec PyProof.Rows
/-! ### what a reading evaluates to, as data -/
theorem line_of {n : Nat} (h : n ≤ 100000) : n ≤ sizeLine := Nat.le_trans h (by decide)
theorem line_lt {n : Nat} (h : n < 100000) : n < sizeLine := Nat.lt_of_lt_of_le h (by decide)
def Gv (K : PySem.W.Frag) (te : TE) (σ : St) (H : Hp) (d : PyData) : Prop := ∀ H1, Same H H1 → ∀ Q : VK, (∀ v H2, Same H1 H2 → Dp K H2 v d → Q v H2) → te σ H1 Q
def Gs (K : PySem.W.Frag) (ta : TA) (σ : St) (H : Hp) (ds : List PyData) : Prop := ∀ H1, Same H H1 → ∀ Q : List V → Hp → Prop, (∀ vs H2, Same H1 H2 → DpAll K H2 vs ds → Q vs H2) → ta σ H1 Q
/-- a list of its own: new -/
def Gl1 (K : PySem.W.Frag) (te : TE) (σ : St) (H : Hp) (ds : List PyData) : Prop := ∀ H1, Same H H1 → ∀ Q : VK, (∀ p xs H2, H1 p = none → Same H1 H2 → H2 p = some (.lst xs) → DpAll K H2 xs ds → Q (.ref p) H2) → te σ H1 Q
/-- a test -/
def Gb (tt : TT) (σ : St) (H : Hp) (b : Bool) : Prop := ∀ H1, Same H H1 → ∀ Q : Bool → Hp → Prop, (∀ H2, Same H1 H2 → Q b H2) → tt σ H1 Q
section
variable {K : PySem.W.Frag} {σ : St} {H H' : Hp} {ta tb te : TE} {tas : TA} {x y z v : V} {d d1 d2 : PyData} {ds : List PyData}
theorem Gv.mono (h : Gv K te σ H d) (s : Same H H') : Gv K te σ H' d := fun H1 s1 Q q => h H1 (s.trans s1) Q q
theorem Gs.mono (h : Gs K tas σ H ds) (s : Same H H') : Gs K tas σ H' ds := fun H1 s1 Q q => h H1 (s.trans s1) Q q
theorem gv_var {i : Nat} (h : σ[i]? = some (some v)) (hd : Dp K H v d) : Gv K (tVar i) σ H d := fun H1 s1 Q q => ⟨v, h, q v H1 (Same.refl H1) (s1.dp hd)⟩
theorem gv_varI {i : Nat} {n : Int} (h : σ[i]? = some (some (.int n))) : Gv K (tVar i) σ H (.int n) := gv_var h (.int n)
theorem gv_varS {i : Nat} {n : Str} (h : σ[i]? = some (some (.str n))) : Gv K (tVar i) σ H (.str n) := gv_var h (.str n)
theorem gv_varB {i : Nat} {n : Bool} (h : σ[i]? = some (some (.bl n))) : Gv K (tVar i) σ H (.bool n) := gv_var h (.bl n)
theorem gv_varN {i : Nat} (h : σ[i]? = some (some .non)) : Gv K (tVar i) σ H .none := gv_var h .non
theorem gv_c (hd : ∀ H, Dp K H v d) : Gv K (tC v) σ H d := fun H1 _ Q q => q v H1 (Same.refl H1) (hd H1)
theorem gv_int {i : Int} : Gv K (tC (.int i)) σ H (.int i) := gv_c fun _ => .int i
theorem gv_str {i : Str} : Gv K (tC (.str i)) σ H (.str i) := gv_c fun _ => .str i
theorem gv_bl {i : Bool} : Gv K (tC (.bl i)) σ H (.bool i) := gv_c fun _ => .bl i
theorem gv_non : Gv K (tC .non) σ H .none := gv_c fun _ => .non
theorem gs_nil : Gs K tNil σ H [] := fun H1 _ Q q => q [] H1 (Same.refl H1) .nil
theorem gs_cons (h1 : Gv K te σ H d) (h2 : Gs K tas σ H ds) : Gs K (tCons te tas) σ H (d :: ds) := fun H1 s1 Q q =>
  h1 H1 s1 _ fun v H2 s2 hv => h2 H2 (s1.trans s2) _ fun vs H3 s3 hvs => q (v :: vs) H3 (s2.trans s3) (.cons (s3.dp hv) hvs)
theorem gv_tup (h : Gs K tas σ H ds) (hl : ds.length ≤ 100000) : Gv K (tTup tas) σ H (.tuple ds) := fun H1 s1 Q q =>
  h H1 s1 _ fun vs H2 s2 hvs => ⟨line_of (by rw [hvs.length]; exact hl), fun p hp => q (.ref p) _ (s2.add hp) (.tupOf upd_same ((Same.new hp).dpAll hvs))⟩
theorem gv_lst (h : Gs K tas σ H ds) (hl : ds.length ≤ 100000) : Gv K (tLst tas) σ H (.list ds) := fun H1 s1 Q q =>
  h H1 s1 _ fun vs H2 s2 hvs => ⟨line_of (by rw [hvs.length]; exact hl), fun p hp => q (.ref p) _ (s2.add hp) (.lstOf upd_same ((Same.new hp).dpAll hvs))⟩
theorem gl_lst (h : Gs K tas σ H ds) (hl : ds.length ≤ 100000) : Gl1 K (tLst tas) σ H ds := fun H1 s1 Q q =>
  h H1 s1 _ fun vs H2 s2 hvs => ⟨line_of (by rw [hvs.length]; exact hl), fun p hp => q p vs _ (s2.free hp) (s2.add hp) upd_same ((Same.new hp).dpAll hvs)⟩
theorem Gl1.gv (h : Gl1 K te σ H ds) : Gv K te σ H (.list ds) := fun H1 s1 Q q => h H1 s1 Q fun p xs H2 hp s2 h2 hd => q (.ref p) H2 s2 (.lstOf h2 hd)
theorem gv_i0 {g : Int → Int → V} {i j : Int} (ha : Gv K ta σ H (.int i)) (hb : Gv K tb σ H (.int j)) (hg : ∀ H, Dp K H (g i j) d) : Gv K (tOp (rI0 g) ta tb) σ H d := fun H1 s1 Q q =>
  ha H1 s1 _ fun v H2 s2 hv => hb H2 (s1.trans s2) _ fun u H3 s3 hu => ⟨i, j, hv.int_inv, hu.int_inv, q _ H3 (s2.trans s3) (hg H3)⟩
theorem gv_i {C : Int → Int → Prop} {g : Int → Int → V} {i j : Int} (ha : Gv K ta σ H (.int i)) (hb : Gv K tb σ H (.int j)) (hc : C i j) (hg : ∀ H, Dp K H (g i j) d) : Gv K (tOp (rI C g) ta tb) σ H d := fun H1 s1 Q q =>
  ha H1 s1 _ fun v H2 s2 hv => hb H2 (s1.trans s2) _ fun u H3 s3 hu => ⟨i, j, hv.int_inv, hu.int_inv, hc, q _ H3 (s2.trans s3) (hg H3)⟩
theorem gv_neg {i : Int} (ha : Gv K ta σ H (.int i)) : Gv K (tUn (rU fun i => .int (-i)) ta) σ H (.int (-i)) := fun H1 s1 Q q =>
  ha H1 s1 _ fun v H2 s2 hv => ⟨i, hv.int_inv, q _ H2 s2 (.int _)⟩
theorem gv_ixL {i : Int} (ha : Gv K ta σ H (.list ds)) (hb : Gv K tb σ H (.int i)) (h : atI ds i = some d) : Gv K (tOp (rIxL K) ta tb) σ H d := fun H1 s1 Q q =>
  ha H1 s1 _ fun v H2 s2 hv => hb H2 (s1.trans s2) _ fun u H3 s3 hu => by
    obtain ⟨a, xs, rfl, hq, hx⟩ := (s3.dp hv).lst_inv
    have hl := hx.length
    unfold atI at h
    cases e : ixN ds.length i with
    | none => rw [e] at h; cases h
    | some j =>
      rw [e] at h
      obtain ⟨w, h1, h2⟩ := hx.get (i := j) h
      exact ⟨a, xs, i, w, rfl, hu.int_inv, hq, by unfold atI; rw [hl, e]; exact h1, q w H3 (s2.trans s3) h2⟩
theorem gv_ixT {i : Int} (ha : Gv K ta σ H (.tuple ds)) (hb : Gv K tb σ H (.int i)) (h : atI ds i = some d) : Gv K (tOp (rIxT K) ta tb) σ H d := fun H1 s1 Q q =>
  ha H1 s1 _ fun v H2 s2 hv => hb H2 (s1.trans s2) _ fun u H3 s3 hu => by
    obtain ⟨a, xs, rfl, hq, hx⟩ := (s3.dp hv).tup_inv
    have hl := hx.length
    unfold atI at h
    cases e : ixN ds.length i with
    | none => rw [e] at h; cases h
    | some j =>
      rw [e] at h
      obtain ⟨w, h1, h2⟩ := hx.get (i := j) h
      exact ⟨a, xs, i, w, rfl, hu.int_inv, hq, by unfold atI; rw [hl, e]; exact h1, q w H3 (s2.trans s3) h2⟩
/-- the value, and what follows -/
theorem Gv.go {Q : VK} (h : Gv K te σ H d) (q : ∀ v H2, Same H H2 → Dp K H2 v d → Q v H2) : te σ H Q := h H (Same.refl H) Q q
theorem Gl1.go {Q : VK} (h : Gl1 K te σ H ds) (q : ∀ p xs H2, H p = none → Same H H2 → H2 p = some (.lst xs) → DpAll K H2 xs ds → Q (.ref p) H2) : te σ H Q := h H (Same.refl H) Q q
theorem Gs.go {Q : List V → Hp → Prop} (h : Gs K tas σ H ds) (q : ∀ vs H2, Same H H2 → DpAll K H2 vs ds → Q vs H2) : tas σ H Q := h H (Same.refl H) Q q
end
/-- len of a list or a tuple -/
theorem Dp.seq {K : PySem.W.Frag} {H : Hp} {v : V} {ds : List PyData} {d : PyData} (h : Dp K H v d) (e : d = .list ds ∨ d = .tuple ds) : ∃ a xs, v = .ref a ∧ (d = .list ds ∧ SqL K H a xs ∨ d = .tuple ds ∧ SqT K H a xs) ∧ DpAll K H xs ds := by
  rcases e with rfl | rfl
  · obtain ⟨a, xs, rfl, h1, h2⟩ := h.lst_inv
    exact ⟨a, xs, rfl, .inl ⟨rfl, h1⟩, h2⟩
  · obtain ⟨a, xs, rfl, h1, h2⟩ := h.tup_inv
    exact ⟨a, xs, rfl, .inr ⟨rfl, h1⟩, h2⟩
theorem Dp.len {K : PySem.W.Frag} {H : Hp} {v : V} {ds : List PyData} {d : PyData} (h : Dp K H v d) (e : d = .list ds ∨ d = .tuple ds) : LenV K v H ds.length := by
  obtain ⟨a, xs, rfl, h1, h2⟩ := h.seq e
  rw [← h2.length]
  rcases h1 with ⟨_, h1⟩ | ⟨_, h1⟩
  · exact .inl ⟨xs, h1, rfl⟩
  · exact .inr ⟨xs, h1, rfl⟩
theorem Dp.ix {K : PySem.W.Frag} {H : Hp} {v : V} {ds : List PyData} {d e : PyData} {i : Nat} {Q : VK} (h : Dp K H v d) (hd : d = .list ds ∨ d = .tuple ds) (hi : ds[i]? = some e) (q : ∀ u, Dp K H u e → Q u H) : rIx K v (.int (i : Nat)) H Q := by
  obtain ⟨a, xs, rfl, h1, h2⟩ := h.seq hd
  obtain ⟨u, hu1, hu2⟩ := h2.get hi
  rcases h1 with ⟨_, h1⟩ | ⟨_, h1⟩
  · exact .inl ⟨a, xs, _, u, rfl, rfl, h1, atI_nat hu1, q u hu2⟩
  · exact .inr (.inl ⟨a, xs, _, u, rfl, rfl, h1, atI_nat hu1, q u hu2⟩)
/-- == of plain values, or of data -/
def rEqA (K : PySem.W.Frag) : R2 := fun x y H Q => rEq x y H Q ∨ rEqD K x y H Q
def rNeA (K : PySem.W.Frag) : R2 := fun x y H Q => rNe x y H Q ∨ rNeD K x y H Q
theorem op_eqAK {X : Cx} (K : PySem.W.Frag) (hu : X.A.units + 65 < cLine) (hK : X.K = K := by rfl) : OpR X (compareOp .Eq) (rEqA K) := op_eq.or (op_eqDK K hu hK)
theorem op_neAK {X : Cx} (K : PySem.W.Frag) (hu : X.A.units + 65 < cLine) (hK : X.K = K := by rfl) : OpR X (compareOp .NotEq) (rNeA K) := op_ne.or (op_neDK K hu hK)
end L2

namespace L2
open PySem PySem.Spec PyProof.Rows
/-! ### a + b by the class's own def -/
section
variable {X : Cx} {CX : CXT} {k : Nat} {f C : Addr} {fd : FuncData} {ps : List Str} {sp : Sp} {E : XK}
def rAddO (C : Addr) (sp : Sp) (E : XK) : R2 := fun x y H Q => ∃ a dx fs b dx' fs', x = .ref a ∧ y = .ref b ∧ H a = some (.ins C dx fs) ∧ H b = some (.ins C dx' fs') ∧ sp [.ref a, .ref b] H (fun v H' => (∃ c, v = .ref c) ∧ Q v H') E
theorem op_addO (hs : Spc X.K C "__add__" f) (hc : PySem.W.selfFirst X.K C = true) (F : FnOk X.prog X.w X.K X.mg X.base CX k f fd ps sp) (hr : Room k X.A) (hb : Binds X.K fd ps []) (hx : Passes CX X E) : OpR X (binaryOp .Add) (rAddO C sp E) := by
  intro pins s σ H x y v u Q I rx ry h
  obtain ⟨a, dx, fs, b, dx', fs', rfl, rfl, e, e', h⟩ := h
  cases rx
  cases ry
  obtain ⟨od, J⟩ := ins_at I e
  obtain ⟨od', J'⟩ := ins_at I e'
  obtain ⟨m, F0⟩ := I.fr
  refine PySem.W.binop_K F0 I.ok.mod.kin J J'.type hc hs.at_ hs.fn (wpAny_mono (run_fn F hr hb .nil hx I (vs := [.ref a, .ref b]) (us := [.ref a, .ref b]) (.cons rfl (.cons rfl .nil)) h) (fun v s' q => ?_) fun _ _ z => z)
  obtain ⟨v', H', I', rv, ⟨c, rfl⟩, q⟩ := q
  cases rv
  exact ⟨.ref c, H', I', rfl, q⟩
end
/-- a slice's part left out -/
theorem po_no {X : Cx} : PO X none (fun _ H Q => Q none H) := po_none
/-! ### tuples of data: t + u, t[:n], t[n:] -/
section
variable {K : PySem.W.Frag} {H : Hp} {Q : VK} {v u : V} {ds es : List PyData}
theorem catT_go (hv : Dp K H v (.tuple ds)) (hu : Dp K H u (.tuple es)) (hl : ds.length + es.length ≤ 100000) (q : ∀ w H', Same H H' → Dp K H' w (.tuple (ds ++ es)) → Q w H') : rCatA K v u H Q := by
  obtain ⟨a, xs, rfl, ha, hxs⟩ := hv.tup_inv
  obtain ⟨b, ys, rfl, hb, hys⟩ := hu.tup_inv
  have e1 := hxs.length
  have e2 := hys.length
  refine ⟨a, b, xs, ys, rfl, rfl, ha, hb, line_of (by omega), fun e => ?_, fun _ e => ?_, fun _ _ p hp => ?_⟩
  · subst e
    cases hxs
    exact q _ H (Same.refl H) hu
  · subst e
    cases hys
    rw [List.append_nil] at q
    exact q _ H (Same.refl H) hv
  · exact q _ _ (Same.new hp) (.tupOf upd_same (((Same.new hp).dpAll hxs).append ((Same.new hp).dpAll hys)))
theorem slT_go {lo hi : Option Int} {fs : List PyData} (hv : Dp K H v (.tuple ds)) (hf : (ds.drop (HT.sIx ds.length 0 lo)).take (HT.sIx ds.length ds.length hi - HT.sIx ds.length 0 lo) = fs) (q : ∀ w H', Same H H' → Dp K H' w (.tuple fs) → Q w H') : rSlA K v lo hi H Q := by
  obtain ⟨a, xs, rfl, ha, hxs⟩ := hv.tup_inv
  have e1 := hxs.length
  refine ⟨a, xs, rfl, ha, fun e => ?_, fun _ p hp => ?_⟩
  · have : fs = ds := by
      rw [← hf, ← e1, e.1, e.2]
      simp [e1]
    rw [this] at q
    exact q _ H (Same.refl H) hv
  · refine q _ _ (Same.new hp) (.tupOf upd_same ?_)
    rw [← hf]
    unfold cutV
    rw [e1]
    exact (Same.new hp).dpAll ((hxs.drop _).take _)
theorem slT_to {n : Nat} {z : Int} (hv : Dp K H v (.tuple ds)) (e : z = (n : Int)) (q : ∀ w H', Same H H' → Dp K H' w (.tuple (ds.take n)) → Q w H') : rSlA K v none (some z) H Q := by
  subst e
  refine slT_go hv ?_ q
  rw [HT.sIx_none, HT.sIx_nat, List.drop_zero, Nat.sub_zero]
  rcases Nat.le_total n ds.length with h | h
  · rw [Nat.min_eq_left h]
  · rw [Nat.min_eq_right h, List.take_length, List.take_of_length_le h]
theorem slT_from {n : Nat} {z : Int} (hv : Dp K H v (.tuple ds)) (e : z = (n : Int)) (q : ∀ w H', Same H H' → Dp K H' w (.tuple (ds.drop n)) → Q w H') : rSlA K v (some z) none H Q := by
  subst e
  refine slT_go hv ?_ q
  rw [HT.sIx_none, HT.sIx_nat]
  rcases Nat.le_total n ds.length with h | h
  · rw [Nat.min_eq_left h, List.take_of_length_le (by rw [List.length_drop]; exact Nat.le_refl _)]
  · rw [Nat.min_eq_right h, List.drop_of_length_le h, List.drop_length]; simp
end
/-! ### texts joined -/
def rJoin (K : PySem.W.Frag) : V → List V → Hp → VK → Prop := fun x xs H Q => ∃ a p, ∃ ys : List Str, x = .str a ∧ xs = [.ref p] ∧ (SqL K H p (ys.map V.str) ∨ SqT K H p (ys.map V.str)) ∧ (ys.map (·.length)).sum + ys.length * a.length ≤ 16777216 ∧ Q (.str (Txt.join a ys)) H
theorem pe_joinK {X : Cx} {o e : Expr} {to te : TE} (K : PySem.W.Frag) {apos pos : Pos} (ho : PE X o to) (he : PE X e te) (hK : X.K = K := by rfl) (hs : starEach [e] X.env = [(false, eval e X.env)] := by rfl) (hbase : attributeBase o "join" X.env (eval o X.env) = eval o X.env := by rfl) (hline : (apos.endLine == pos.line) = true := by rfl) :
    PE X (.Call (.Attribute o "join" apos) [e] [] pos) (tM1 (rJoin K) to te) := by subst hK; exact pe_join ho he hs hbase hline
end L2

namespace L2
open PySem PySem.Spec PyProof.Rows
/-- the turns of enumerate(list) -/
theorem for_enumL {K : PySem.W.Frag} {a : Addr} {xs : List V} {g : TG} {tb : TS} {D : Ends} {σ : St} {H : Hp} (Pv : Nat → St → Hp → Prop) (h0 : Pv 0 σ H) (hl : ∀ i σ H, i ≤ xs.length → Pv i σ H → SqL K H a xs)
    (hs : ∀ i x T σ H, xs[i]? = some x → Pv i σ H → H T = none → g (.ref T) σ (upd H T (.tup [.int (i : Nat), x])) fun σ2 H2 => tb { D with nx := Pv (i + 1), ct := Pv (i + 1), bk := D.nx } σ2 H2) (hd : ∀ σ H, Pv xs.length σ H → D.nx σ H) :
    ∃ W : Nat → Nat → St → Hp → Prop, (∃ m, W 0 m σ H) ∧ ∀ i m σ H, W i m σ H →
      ((Ite K a).stop i H ∧ D.nx σ H) ∨ ((Ite K a).go i H ∧ ∃ N : St → Hp → Prop, (∀ σ' H', N σ' H' → ∃ m', m' < m ∧ W (i + 1) m' σ' H') ∧ ∀ x H', (Ite K a).yld i H x H' → g x σ H' fun σ2 H2 => tb { D with nx := N, ct := N, bk := D.nx } σ2 H2) := by
  refine ⟨fun i m σ H => m = xs.length - i ∧ i ≤ xs.length ∧ Pv i σ H, ⟨xs.length, by simp, Nat.zero_le _, h0⟩, ?_⟩
  rintro i m σ H ⟨rfl, hi, p⟩
  have q := hl i σ H hi p
  by_cases hlt : i < xs.length
  · refine .inr ⟨⟨xs, xs[i], q, by simp [hlt]⟩, Pv (i + 1), fun σ' H' p' => ⟨xs.length - (i + 1), by omega, rfl, hlt, p'⟩, fun x H' y => ?_⟩
    obtain ⟨T, x', rfl, hT, rfl, hx⟩ := y
    exact hs i x' T σ H (hx xs q) p hT
  · have e : i = xs.length := by omega
    subst e
    exact .inl ⟨⟨xs, q, Nat.le_refl _⟩, hd σ H p⟩
/-! ### a list of anything != an empty one -/
def rNeE (K : PySem.W.Frag) : R2 := fun x y H Q => ∃ a b xs, x = .ref a ∧ y = .ref b ∧ SqL K H a xs ∧ SqL K H b [] ∧ Q (.bl (!xs.isEmpty)) H
theorem op_neE {X : Cx} (K : PySem.W.Frag) (hu : X.A.units + 65 < cLine) (hK : X.K = K := by rfl) : OpR X (compareOp .NotEq) (rNeE K) := by
  subst hK
  intro pins s σ H x y v u Q I rx ry h
  obtain ⟨a, b, xs, rfl, rfl, ha, hb, q⟩ := h
  obtain rfl : v = Value.ref a := rx
  obtain rfl : u = Value.ref b := ry
  obtain ⟨its, rv, pl, _⟩ := I.list ha
  obtain ⟨its2, rv2, pl2, _⟩ := I.list hb
  have e2 := rv2.length
  have e1 := rv.length
  obtain rfl : its2 = [] := List.length_eq_zero_iff.mp (by simpa using e2.symm)
  cases xs with
  | nil =>
    obtain rfl : its = [] := List.length_eq_zero_iff.mp (by simpa using e1.symm)
    refine PySem.SeqAt.RcNeAt.lists (e := fun _ => true) pl.isList pl2.isList rfl (by omega) (fun j h1 h2 => absurd h1 (by simp)) X.prog X.w _ _ ?_
    exact ⟨.bl _, H, I, rfl, q⟩
  | cons x xs =>
    refine PySem.SeqAt.RcNeAt.lists_lengths pl.isList pl2.isList ?_ (by omega) X.prog X.w _ _ ?_
    · have : its.length ≠ 0 := by rw [← e1]; simp
      simpa using this
    · exact ⟨.bl _, H, I, rfl, q⟩
theorem DpAll.snoc {K : PySem.W.Frag} {H : Hp} : ∀ {ys : List V} {ds : List PyData} {v : V} {d : PyData}, DpAll K H ys ds → Dp K H v d → DpAll K H (ys ++ [v]) (ds ++ [d]) := fun h1 h2 => h1.append (.one h2)
theorem immAll_take : ∀ {ds : List PyData} (n : Nat), immAll ds = true → immAll (ds.take n) = true
  | _, 0, _ => rfl
  | [], _ + 1, _ => rfl
  | d :: ds, n + 1, h => by
    simp only [immAll, Bool.and_eq_true] at h
    simp only [List.take_succ_cons, immAll, Bool.and_eq_true]
    exact ⟨h.1, immAll_take n h.2⟩
theorem immAll_get : ∀ {ds : List PyData} {n : Nat} {d : PyData}, immAll ds = true → ds[n]? = some d → imm d = true
  | [], _, _, _, e => by simp at e
  | d :: ds, 0, _, h, e => by
    simp only [immAll, Bool.and_eq_true] at h
    simp at e; subst e; exact h.1
  | d :: ds, n + 1, x, h, e => by
    simp only [immAll, Bool.and_eq_true] at h
    exact immAll_get (n := n) (d := x) h.2 (by simpa using e)
/-- [e(x) for x in l], data of each -/
theorem lcMap {K : PySem.W.Frag} {tl te : TE} {i : Nat} {σ : St} {H : Hp} {Q : VK} {l : Addr} {xs : List V} {ds : List PyData} (htl : ∀ Q : VK, Q (.ref l) H → tl σ H Q) (hl : SqL K H l xs) (hlen : ds.length = xs.length) (hz : xs.length < 100000) (hi : immAll ds = true)
    (hw : ∀ x, wipe ((wipe σ [i]).set i (some x)) [i] = wipe σ [i]) (each : ∀ (j : Nat) x d H', xs[j]? = some x → ds[j]? = some d → Same H H' → Gv K te ((wipe σ [i]).set i (some x)) H' d)
    (q : ∀ D ys H', H D = none → Same H H' → H' D = some (.lst ys) → DpAll K H' ys ds → Q (.ref D) H') : tLc (iList K tl) (gName i) tYes te [i] σ H Q := by
  refine htl _ ⟨l, rfl, ⟨_, hl⟩, fun D nD => ?_⟩
  have sl : ∀ {H' : Hp}, Same H H' → SqL K H' l xs := fun {H'} s => by
    rcases hl with (h | ⟨o, h⟩) | h
    · exact .inl (.inl (s _ _ h))
    · exact .inl (.inr ⟨o, s _ _ h⟩)
    · exact .inr h
  refine lc_list (K := K) (a := l) (xs := xs) (fun j H' => Same H H' ∧ ∃ ys, H' D = some (.lst ys) ∧ DpAll K H' ys (ds.take j)) ⟨Same.new nD, [], upd_same, .nil⟩ (fun j H' _ h => sl h.1) ?_ ?_
  · rintro j x H' hx ⟨s, ys, hD, hys⟩
    have hj : j < ds.length := by rw [hlen]; exact (List.getElem?_eq_some_iff.mp hx).1
    have hd := List.getElem?_eq_getElem hj
    refine ⟨hw x, ?_⟩
    refine Gv.go (each j x _ H' hx hd s) fun v H2 s2 hv => ⟨ys, s2 _ _ hD, ?_, ?_⟩
    · refine line_lt ?_
      rw [hys.length, List.length_take]; omega
    · have t : Tups H2 (upd H2 D (.lst (ys ++ [v]))) := Tups.mut (by rw [s2 _ _ hD]; trivial)
      refine ⟨(s.trans s2).mut nD, _, upd_same, ?_⟩
      rw [List.take_add_one, hd]
      exact (t.dpAll (immAll_take j hi) (s2.dpAll hys)).snoc (t.dp (immAll_get hi hd) hv)
  · rintro H' ⟨s, ys, hD, hys⟩
    rw [← hlen, List.take_length] at hys
    exact q D ys H' nD s hD hys
theorem SqL.same {K : PySem.W.Frag} {H H' : Hp} {l : Addr} {xs : List V} (hl : SqL K H l xs) (s : Same H H') : SqL K H' l xs := by
  rcases hl with (h | ⟨o, h⟩) | h
  · exact .inl (.inl (s _ _ h))
  · exact .inl (.inr ⟨o, s _ _ h⟩)
  · exact .inr h
/-- [g(x) for x in l if f(x)] -/
theorem lcFM {α : Type} {K : PySem.W.Frag} {tl te : TE} {tt : TT} {i : Nat} {σ : St} {H : Hp} {Q : VK} {l : Addr} (items : List α) (val g : α → V) (f : α → Bool) (htl : ∀ Q : VK, Q (.ref l) H → tl σ H Q) (hl : SqL K H l (items.map val)) (hz : items.length < 100000)
    (hw : ∀ x, wipe ((wipe σ [i]).set i (some x)) [i] = wipe σ [i])
    (each : ∀ (j : Nat) x H', items[j]? = some x → Same H H' → ∀ R : Bool → Hp → Prop, (∀ H2, Same H' H2 → R (f x) H2) → tt ((wipe σ [i]).set i (some (val x))) H' R)
    (each2 : ∀ (j : Nat) x H', items[j]? = some x → f x = true → Same H H' → ∀ R : VK, (∀ H2, Same H' H2 → R (g x) H2) → te ((wipe σ [i]).set i (some (val x))) H' R)
    (q : ∀ D H', H D = none → Same H H' → H' D = some (.lst ((items.filter f).map g)) → Q (.ref D) H') : tLc (iList K tl) (gName i) tt te [i] σ H Q := by
  refine htl _ ⟨l, rfl, ⟨_, hl⟩, fun D nD => ?_⟩
  refine lc_list (K := K) (a := l) (xs := items.map val) (fun j H' => Same H H' ∧ H' D = some (.lst (((items.take j).filter f).map g))) ⟨Same.new nD, upd_same⟩ (fun j H' _ h => hl.same h.1) ?_ ?_
  · rintro j x H' hx ⟨s, hD⟩
    rw [List.getElem?_map] at hx
    obtain ⟨y, hy, rfl⟩ := Option.map_eq_some_iff.mp hx
    have ht : items.take (j + 1) = items.take j ++ [y] := by rw [List.take_add_one, hy]; rfl
    refine ⟨hw _, ?_⟩
    refine each j y H' hy s _ fun H2 s2 => ?_
    by_cases hf : f y = true
    · rw [if_pos hf]
      refine each2 j y H2 hy hf (s.trans s2) _ fun H3 s3 => ⟨_, s3 _ _ (s2 _ _ hD), ?_, ((s.trans s2).trans s3).mut nD, ?_⟩
      · refine line_lt ?_
        rw [List.length_map]
        have h1 := List.length_filter_le f (items.take j)
        have h2 := List.length_take_le j items
        have h3 := List.length_take_le' j items
        omega
      · rw [upd_same, ht, List.filter_append, List.map_append]
        simp [hf]
    · rw [if_neg hf]
      refine ⟨s.trans s2, ?_⟩
      rw [s2 _ _ hD, ht, List.filter_append]
      simp [hf]
  · rintro H' ⟨s, hD⟩
    rw [List.length_map, List.take_length] at hD
    exact q D H' nD s hD
/-! ### one step at a time -/
theorem gName_app {i : Nat} {x : V} {σ : St} {H : Hp} {Q : St → Hp → Prop} : gName i x σ H Q = Q (σ.set i (some x)) H := rfl
theorem tAsg_app {te : TE} {g : TG} {D : Ends} {σ : St} {H : Hp} : tAsg te g D σ H = te σ H fun x H1 => g x σ H1 D.nx := rfl
theorem tSeq_app {t u : TS} {D : Ends} {σ : St} {H : Hp} : tSeq t u D σ H = t { D with nx := u D } σ H := rfl
theorem tRet_app {te : TE} {D : Ends} {σ : St} {H : Hp} : tRet te D σ H = te σ H D.rt := rfl
theorem tTup_app {ta : TA} {σ : St} {H : Hp} {Q : VK} : tTup ta σ H Q = ta σ H fun xs H1 => xs.length ≤ sizeLine ∧ ∀ p, H1 p = none → Q (.ref p) (upd H1 p (.tup xs)) := rfl
theorem tCons_app {te : TE} {ta : TA} {σ : St} {H : Hp} {Q : List V → Hp → Prop} : tCons te ta σ H Q = te σ H fun x H1 => ta σ H1 fun xs H2 => Q (x :: xs) H2 := rfl
end L2

namespace L2
open PySem PySem.Spec PyProof.Rows
/-- {k(x): g(x) for x in l if f(x)} -/
theorem dcFM {α : Type} {K : PySem.W.Frag} {tl tk te : TE} {tt : TT} {i : Nat} {σ : St} {H : Hp} {Q : VK} {l : Addr} (items : List α) (val g : α → V) (κ : α → Key) (f : α → Bool) (htl : ∀ Q : VK, Q (.ref l) H → tl σ H Q) (hl : SqL K H l (items.map val)) (hz : items.length < 100000)
    (hnd : ((items.filter f).map κ).Nodup) (hw : ∀ x, wipe ((wipe σ [i]).set i (some x)) [i] = wipe σ [i])
    (each : ∀ (j : Nat) x H', items[j]? = some x → Same H H' → ∀ R : Bool → Hp → Prop, (∀ H2, Same H' H2 → R (f x) H2) → tt ((wipe σ [i]).set i (some (val x))) H' R)
    (each1 : ∀ (j : Nat) x H', items[j]? = some x → f x = true → Same H H' → ∀ R : VK, (∀ H2, Same H' H2 → R (kV (κ x)) H2) → tk ((wipe σ [i]).set i (some (val x))) H' R)
    (each2 : ∀ (j : Nat) x H', items[j]? = some x → f x = true → Same H H' → ∀ R : VK, (∀ H2, Same H' H2 → R (g x) H2) → te ((wipe σ [i]).set i (some (val x))) H' R)
    (q : ∀ D H', H D = none → Same H H' → H' D = some (.dK ((items.filter f).map fun x => (κ x, g x))) → Q (.ref D) H') : tDc (iList K tl) (gName i) tt tk te [i] σ H Q := by
  refine htl _ ⟨l, rfl, ⟨_, hl⟩, fun D nD => ?_⟩
  have snoc : ∀ (ys : List α) (y : α), (ys.map κ ++ [κ y]).Nodup → putK (ys.map fun x => (κ x, g x)) (κ y) (g y) = ys.map (fun x => (κ x, g x)) ++ [(κ y, g y)] := by
    intro ys y h
    unfold putK
    rw [if_neg]
    intro h2
    obtain ⟨z, hz, e⟩ := List.any_eq_true.mp h2
    obtain ⟨x, hx, rfl⟩ := List.mem_map.mp hz
    have e : κ x = κ y := of_decide_eq_true e
    rw [List.nodup_append] at h
    exact h.2.2 _ (List.mem_map.mpr ⟨x, hx, rfl⟩) _ (List.mem_singleton.mpr rfl) e
  suffices h : ∃ W : Nat → Nat → Hp → Prop, (∃ m, W 0 m (upd H D (.dK []))) ∧ ∀ j m H', W j m H' →
      ((Itl K l).stop j H' ∧ Q (.ref D) H') ∨ ((Itl K l).go j H' ∧ ∃ Nx : Hp → Prop, (∀ H2, Nx H2 → ∃ m', m' < m ∧ W (j + 1) m' H2) ∧ ∀ x H2, (Itl K l).yld j H' x H2 → gName i x (wipe σ [i]) H2 fun σ2 H3 => wipe σ2 [i] = wipe σ [i] ∧ tt σ2 H3 fun b H4 =>
        if b = true then tk σ2 H4 fun y H5 => te σ2 H5 fun z H6 => ∃ kvs k, y = kV k ∧ H6 D = some (.dK kvs) ∧ kvs.length < sizeLine ∧ Nx (upd H6 D (.dK (putK kvs k z))) else Nx H4) from h
  let Pv : Nat → Hp → Prop := fun j H' => Same H H' ∧ H' D = some (.dK (((items.take j).filter f).map fun x => (κ x, g x)))
  refine ⟨fun j m H' => m = items.length - j ∧ j ≤ items.length ∧ Pv j H', ⟨items.length, by simp, Nat.zero_le _, Same.new nD, upd_same⟩, ?_⟩
  rintro j m H' ⟨rfl, hj, s, hD⟩
  have hl' := hl.same s
  by_cases hlt : j < items.length
  · have hy := List.getElem?_eq_getElem hlt
    refine .inr ⟨⟨_, _, hl', by rw [List.getElem?_map, hy]; rfl⟩, Pv (j + 1), fun H2 p => ⟨items.length - (j + 1), by omega, rfl, hlt, p⟩, ?_⟩
    rintro x H2 yl
    obtain ⟨rfl, hx⟩ := (show H2 = H' ∧ ∀ xs, SqL K H' l xs → xs[j]? = some x from yl)
    have hx := hx _ hl'
    rw [List.getElem?_map, hy] at hx
    cases hx
    have ht : items.take (j + 1) = items.take j ++ [items[j]] := by rw [List.take_add_one, hy]; rfl
    refine ⟨hw _, ?_⟩
    refine each j _ _ hy s _ fun H3 s3 => ?_
    by_cases hf : f items[j] = true
    · rw [if_pos hf]
      refine each1 j _ H3 hy hf (s.trans s3) _ fun H4 s4 => each2 j _ H4 hy hf ((s.trans s3).trans s4) _ fun H5 s5 => ⟨_, _, rfl, s5 _ _ (s4 _ _ (s3 _ _ hD)), ?_, (((s.trans s3).trans s4).trans s5).mut nD, ?_⟩
      · refine line_lt ?_
        rw [List.length_map]
        have h1 := List.length_filter_le f (items.take j)
        have h3 := List.length_take_le' j items
        omega
      · have nd : (((items.take j).filter f).map κ ++ [κ items[j]]).Nodup := by
          have e : ((items.take j).filter f).map κ ++ [κ items[j]] = ((items.take (j + 1)).filter f).map κ := by
            rw [ht, List.filter_append, List.map_append]; simp [hf]
          rw [e]
          have sub : ((items.take (j + 1)).filter f).map κ = ((items.filter f).map κ).take (((items.take (j + 1)).filter f).map κ).length := by
            have : items.filter f = (items.take (j + 1)).filter f ++ (items.drop (j + 1)).filter f := by rw [← List.filter_append, List.take_append_drop]
            rw [this, List.map_append, List.take_left]
          rw [sub]
          exact hnd.sublist (List.take_sublist _ _)
        rw [upd_same, snoc _ _ nd, ht, List.filter_append, List.map_append]
        simp [hf]
    · rw [if_neg hf]
      refine ⟨s.trans s3, ?_⟩
      rw [s3 _ _ hD, ht, List.filter_append]
      simp [hf]
  · have e : j = items.length := by omega
    subst e
    rw [List.take_length] at hD
    exact .inl ⟨⟨_, hl', by rw [List.length_map]; exact Nat.le_refl _⟩, q D H' nD s hD⟩
/-- the turns of d.values(), d locked -/
theorem for_valsD {d : Addr} {o : Obj} {kvs : List (Key × V)} {g : TG} {tb : TS} {D : Ends} {σ : St} {H : Hp} (Pv : Nat → St → Hp → Prop) (h0 : Pv 0 σ H) (hl : ∀ i σ H, i ≤ kvs.length → Pv i σ H → H d = some (.frz o (.dK kvs)))
    (hs : ∀ (i : Nat) k x σ H, kvs[i]? = some (k, x) → Pv i σ H → g x σ H fun σ2 H2 => tb { D with nx := Pv (i + 1), ct := Pv (i + 1), bk := D.nx } σ2 H2) (hd : ∀ σ H, Pv kvs.length σ H → D.nx σ H) :
    ∃ W : Nat → Nat → St → Hp → Prop, (∃ m, W 0 m σ H) ∧ ∀ i m σ H, W i m σ H →
      ((Itd d o kvs).stop i H ∧ D.nx σ H) ∨ ((Itd d o kvs).go i H ∧ ∃ N : St → Hp → Prop, (∀ σ' H', N σ' H' → ∃ m', m' < m ∧ W (i + 1) m' σ' H') ∧ ∀ x H', (Itd d o kvs).yld i H x H' → g x σ H' fun σ2 H2 => tb { D with nx := N, ct := N, bk := D.nx } σ2 H2) := by
  refine ⟨fun i m σ H => m = kvs.length - i ∧ i ≤ kvs.length ∧ Pv i σ H, ⟨kvs.length, by simp, Nat.zero_le _, h0⟩, ?_⟩
  rintro i m σ H ⟨rfl, hi, p⟩
  have q := hl i σ H hi p
  by_cases hlt : i < kvs.length
  · refine .inr ⟨⟨q, hlt⟩, Pv (i + 1), fun σ' H' p' => ⟨kvs.length - (i + 1), by omega, rfl, hlt, p'⟩, fun x H' y => ?_⟩
    obtain ⟨rfl, k, hk⟩ := (show H' = H ∧ ∃ k, kvs[i]? = some (k, x) from y)
    exact hs i k x σ H' hk p
  · have e : i = kvs.length := by omega
    subst e
    exact .inl ⟨⟨q, Nat.le_refl _⟩, hd σ H p⟩
theorem tups_frz {H : Hp} {m : Addr} {od : Obj} {kvs : List (Key × V)} {o : HO} (h : H m = some (.frz od (.dK kvs))) : Tups H (upd H m o) :=
  ⟨fun b xs e => by rw [upd_ne (ne_of e h (by intro z; cases z))]; exact e, fun b o xs e => by rw [upd_ne (ne_of e h (by intro z; cases z))]; exact e⟩
/-- {k(x): a new thing for x in l}: what is said of the things stands while tuples stand -/
theorem dcT {α : Type} {K : PySem.W.Frag} {tl tk te : TE} {i : Nat} {σ : St} {H : Hp} {Q : VK} {l : Addr} (items : List α) (val : α → V) (κ : α → Key) (G : α → V → Hp → Prop) (hG : ∀ x v H H', G x v H → Tups H H' → G x v H') (htl : ∀ Q : VK, Q (.ref l) H → tl σ H Q) (hl : SqL K H l (items.map val)) (hz : items.length < 100000)
    (hnd : (items.map κ).Nodup) (hw : ∀ x, wipe ((wipe σ [i]).set i (some x)) [i] = wipe σ [i])
    (each1 : ∀ (j : Nat) x H', items[j]? = some x → Same H H' → ∀ R : VK, (∀ H2, Same H' H2 → R (kV (κ x)) H2) → tk ((wipe σ [i]).set i (some (val x))) H' R)
    (each2 : ∀ (j : Nat) x H', items[j]? = some x → Same H H' → ∀ R : VK, (∀ v H2, Same H' H2 → G x v H2 → R v H2) → te ((wipe σ [i]).set i (some (val x))) H' R)
    (q : ∀ D vs H', H D = none → Same H H' → vs.length = items.length → H' D = some (.dK ((items.zip vs).map fun z => (κ z.1, z.2))) → (∀ (j : Nat) x v, items[j]? = some x → vs[j]? = some v → G x v H') → Q (.ref D) H') : tDc (iList K tl) (gName i) tYes tk te [i] σ H Q := by
  refine htl _ ⟨l, rfl, ⟨_, hl⟩, fun D nD => ?_⟩
  let Pv : Nat → Hp → Prop := fun j H' => Same H H' ∧ ∃ vs : List V, vs.length = j ∧ H' D = some (.dK (((items.take j).zip vs).map fun z => (κ z.1, z.2))) ∧ ∀ (r : Nat) x v, items[r]? = some x → vs[r]? = some v → G x v H'
  refine ⟨fun j m H' => m = items.length - j ∧ j ≤ items.length ∧ Pv j H', ⟨items.length, by simp, Nat.zero_le _, Same.new nD, [], rfl, upd_same, fun r x v _ h => by simp at h⟩, ?_⟩
  rintro j m H' ⟨rfl, hj, s, vs, lv, hD, hvs⟩
  have hl' := hl.same s
  by_cases hlt : j < items.length
  · have hy := List.getElem?_eq_getElem hlt
    refine .inr ⟨⟨_, _, hl', by rw [List.getElem?_map, hy]; rfl⟩, Pv (j + 1), fun H2 p => ⟨items.length - (j + 1), by omega, rfl, hlt, p⟩, ?_⟩
    rintro x H2 yl
    obtain ⟨rfl, hx⟩ := (show H2 = H' ∧ ∀ xs, SqL K H' l xs → xs[j]? = some x from yl)
    have hx := hx _ hl'
    rw [List.getElem?_map, hy] at hx
    cases hx
    refine ⟨hw _, ?_⟩
    simp only [tYes, if_true]
    refine each1 j _ _ hy s _ fun H4 s4 => each2 j _ H4 hy (s.trans s4) _ fun v H5 s5 hv => ?_
    have hD5 := s5 _ _ (s4 _ _ hD)
    have lz : ((items.take j).zip vs).length = j := by rw [List.length_zip, List.length_take, lv]; omega
    have tu : ∀ o, Tups H5 (upd H5 D o) := fun o => Tups.mut (by rw [hD5]; trivial)
    refine ⟨_, _, rfl, hD5, line_lt (by rw [List.length_map, lz]; omega), ((s.trans s4).trans s5).mut nD, vs ++ [v], by rw [List.length_append, lv]; rfl, ?_, ?_⟩
    · rw [upd_same]
      have ht : items.take (j + 1) = items.take j ++ [items[j]] := by rw [List.take_add_one, hy]; rfl
      have e1 : ((items.take j).zip vs).map (fun z => (κ z.1, z.2)) = ((items.take j).zip vs).map (fun z => (κ z.1, z.2)) := rfl
      have nk : ¬ (((((items.take j).zip vs).map fun z => (κ z.1, z.2)).any fun kv => decide (kv.1 = κ items[j])) = true) := by
        intro h
        obtain ⟨z, hz, e⟩ := List.any_eq_true.mp h
        obtain ⟨w, hw', rfl⟩ := List.mem_map.mp hz
        have e : κ w.1 = κ items[j] := of_decide_eq_true e
        have hm : w.1 ∈ items.take j := (List.of_mem_zip (a := w.1) (b := w.2) hw').1
        have nd : ((items.take j).map κ ++ [κ items[j]]).Nodup := by
          have : (items.take j).map κ ++ [κ items[j]] = (items.map κ).take (j + 1) := by rw [← List.map_take, ht, List.map_append]; rfl
          rw [this]; exact hnd.sublist (List.take_sublist _ _)
        rw [List.nodup_append] at nd
        exact nd.2.2 _ (List.mem_map.mpr ⟨w.1, hm, rfl⟩) _ (List.mem_singleton.mpr rfl) e
      unfold putK
      rw [if_neg nk, ht, List.zip_append (by rw [List.length_take, lv]; omega), List.map_append]
      rfl
    · intro r x u hr hu
      by_cases hrj : r < j
      · rw [List.getElem?_append_left (by omega)] at hu
        exact hG _ _ _ _ (hvs r x u hr hu) ((s4.tups.trans s5.tups).trans (tu _))
      · have hr0 : r - vs.length = 0 := by
          by_cases z : r - vs.length = 0
          · exact z
          · exfalso
            rw [List.getElem?_append_right (by omega), List.getElem?_eq_none (by simp; omega)] at hu; cases hu
        rw [List.getElem?_append_right (by omega), hr0] at hu
        cases hu
        obtain rfl : r = j := by omega
        rw [hy] at hr
        cases hr
        exact hG _ _ _ _ hv (tu _)
  · have e : j = items.length := by omega
    subst e
    rw [List.take_length] at hD
    exact .inl ⟨⟨_, hl', by rw [List.length_map]; exact Nat.le_refl _⟩, q D vs H' nD s lv hD hvs⟩
/-- [k for k in d if f(k)], d locked -/
theorem lcKeys {K : PySem.W.Frag} {td : TE} {tt : TT} {i : Nat} {σ : St} {H : Hp} {Q : VK} {d : Addr} {o : Obj} {kvs : List (Key × V)} (f : Key → Bool) (htd : ∀ Q : VK, Q (.ref d) H → td σ H Q) (hd : H d = some (.frz o (.dK kvs))) (hz : kvs.length < 100000)
    (hw : ∀ x, wipe ((wipe σ [i]).set i (some x)) [i] = wipe σ [i]) (hv : ∀ x, ((wipe σ [i]).set i (some x))[i]? = some (some x))
    (each : ∀ (k : Key) H', Same H H' → ∀ R : Bool → Hp → Prop, (∀ H2, Same H' H2 → R (f k) H2) → tt ((wipe σ [i]).set i (some (kV k))) H' R)
    (q : ∀ D H', H D = none → Same H H' → H' D = some (.lst (((kvs.map (·.1)).filter f).map kV)) → Q (.ref D) H') : tLc (iKeys td) (gName i) tt (tVar i) [i] σ H Q := by
  refine htd _ ⟨d, o, rfl, .inl ⟨kvs, hd, fun D nD => ?_⟩⟩
  let Pv : Nat → Hp → Prop := fun j H' => Same H H' ∧ H' D = some (.lst ((((kvs.take j).map (·.1)).filter f).map kV))
  refine ⟨fun j m H' => m = kvs.length - j ∧ j ≤ kvs.length ∧ Pv j H', ⟨kvs.length, by simp, Nat.zero_le _, Same.new nD, upd_same⟩, ?_⟩
  rintro j m H' ⟨rfl, hj, s, hD⟩
  have hd' := s _ _ hd
  by_cases hlt : j < kvs.length
  · have hy := List.getElem?_eq_getElem hlt
    refine .inr ⟨⟨hd', hlt⟩, Pv (j + 1), fun H2 p => ⟨kvs.length - (j + 1), by omega, rfl, hlt, p⟩, ?_⟩
    rintro x H2 yl
    obtain ⟨rfl, k, v, hk, rfl⟩ := (show H2 = H' ∧ ∃ k v, kvs[j]? = some (k, v) ∧ x = kV k from yl)
    refine ⟨hw _, ?_⟩
    have ht : kvs.take (j + 1) = kvs.take j ++ [(k, v)] := by rw [List.take_add_one, hk]; rfl
    refine each k _ s _ fun H3 s3 => ?_
    by_cases hf : f k = true
    · rw [if_pos hf]
      refine ⟨_, hv _, _, s3 _ _ hD, ?_, (s.trans s3).mut nD, ?_⟩
      · refine line_lt ?_
        rw [List.length_map]
        have h1 := List.length_filter_le f ((kvs.take j).map (·.1))
        rw [List.length_map, List.length_take] at h1
        omega
      · rw [upd_same, ht, List.map_append, List.filter_append, List.map_append]
        simp [hf]
    · rw [if_neg hf]
      refine ⟨s.trans s3, ?_⟩
      rw [s3 _ _ hD, ht, List.map_append, List.filter_append]
      simp [hf]
  · have e : j = kvs.length := by omega
    subst e
    rw [List.take_length] at hD
    exact .inl ⟨⟨hd', Nat.le_refl _⟩, q D H' nD s hD⟩
/-- [e(x) for x in a list that is made on the way], data of each -/
theorem lcMapN {K : PySem.W.Frag} {tl te : TE} {i : Nat} {σ : St} {H : Hp} {Q : VK} {xs : List V} {ds : List PyData} (htl : ∀ Q : VK, (∀ l H1, Same H H1 → H1 l = some (.lst xs) → Q (.ref l) H1) → tl σ H Q) (hlen : ds.length = xs.length) (hz : xs.length < 100000) (hi : immAll ds = true)
    (hw : ∀ x, wipe ((wipe σ [i]).set i (some x)) [i] = wipe σ [i]) (each : ∀ (j : Nat) x d H', xs[j]? = some x → ds[j]? = some d → Same H H' → Gv K te ((wipe σ [i]).set i (some x)) H' d)
    (q : ∀ D ys H', H D = none → Same H H' → H' D = some (.lst ys) → DpAll K H' ys ds → Q (.ref D) H') : tLc (iList K tl) (gName i) tYes te [i] σ H Q := by
  refine htl _ fun l H1 s1 hl => ?_
  have r := lcMap (K := K) (tl := fun σ H Q => Q (.ref l) H) (te := te) (i := i) (σ := σ) (H := H1) (Q := Q) (l := l) (xs := xs) (ds := ds) (fun Q hq => hq) (SqL.of hl) hlen hz hi hw (fun j x d H' h1 h2 s => each j x d H' h1 h2 (s1.trans s)) fun D ys H' nD s hD hys => q D ys H' (s1.free nD) (s1.trans s) hD hys
  exact r
end L2

/-! # Calls that may raise at the slots of the moment; several except clauses with a name -/
namespace L2
open PySem PySem.Spec PyProof.Rows
section
variable {X : Cx} {CX : CXT} {k n : Nat} {f C : Addr} {fd : FuncData} {ps ks : List Str} {sp : Sp} {E : St → XK} {x m : Str} {p pos apos : Pos} {e o : Expr} {es : List Expr} {kws : List Keyword} {ta : TE} {t tk : TA} {g : List Value → List Value → List Value} {gV : List V → List V → List V}
theorem run_fnNS {pins : List (Addr × Obj)} {σ : St} {H : Hp} {s : Shared} {Q : VK} {us ws : List Value} {vs zs : List V} (F : FnOk X.prog X.w X.K X.mg X.base CX k f fd ps sp) (hr : Room k X.A) (hb : KBn X.K fd ps n ks g gV) (hx : PassesAt CX X σ (E σ))
    (I : Inv X pins σ H s) (r : Vals vs us) (rz : Vals zs ws) (l1 : vs.length = n) (l2 : zs.length = ks.length) (h : sp (gV vs zs) H Q (E σ)) : wpAny (model X.prog X.w) X.A (call (.ref f) us (ks.zip ws)) (EP X pins σ Q) X.xe s := by
  have r2 := hb.rel r rz
  refine wpAny_call (codeAny_mono (F.run X.A X.stack s H ⟨us, ks.zip ws⟩ (g us ws) (gV vs zs) Q (E σ) hr I.env0 (hb.to s us ws I.kIn (r.length.symm.trans l1) (rz.length.symm.trans l2)) r2 h) fun r s' hq => ?_)
  cases r with
  | error e => exact hx pins H s e s' I hq
  | ok fl =>
    cases fl with
    | ret u => exact I.after hq
    | next => exact False.elim hq
    | brk => exact False.elim hq
    | cont => exact False.elim hq
/-- f(k = v, ..) -/
def tCallN0S (m : Nat) (sp : Sp) (gV : List V → List V → List V) (E : St → XK) (tk : TA) : TE := fun σ H Q => tk σ H fun zs H2 => zs.length = m ∧ sp (gV [] zs) H2 Q (E σ)
theorem pe_callN0S (F : FnOk X.prog X.w X.K X.mg X.base CX k f fd ps sp) (hr : Room k X.A) (hg : Gl X x) (hm : X.mg x = some (.ref f)) (hk : PySem.W.keepIn X.K (.ref f) = true) (hb : KBn X.K fd ps 0 ks g gV) (hx : ∀ σ, PassesAt CX X σ (E σ))
    (hkw : PK X kws tk) (hall : (backToKw pos (keywordEach kws X.env)).all (·.1.isSome) = true := by rfl) (hks : (backToKw pos (keywordEach kws X.env)).filterMap (·.1) = ks := by rfl)
    (hdb : (x == ("__debug__" : Str)) = false := by decide)
    (hpl : ((backTo pos (starEach [] X.env)).any (·.1) || (backToKw pos (keywordEach kws X.env)).any (·.1.isNone)) = false := by rfl) :
    PE X (.Call (.Name x p) [] kws pos) (tCallN0S ks.length sp gV E tk) := by
  refine ⟨fun pins s σ H Q I h => ?_⟩
  refine wpAny_Call_Name_kw (ld_glob I hg hm ?_ hdb)
  refine PySem.W.callWith_KW0 (h₀ := X.base) I.ok.mod.kin hk hall ?_ hpl
  refine thn (hkw.run pos pins s σ H _ I h) fun ws s2 ⟨zs, H2, I2, rz, l2, q2⟩ => ⟨I2.kIn, ?_⟩
  rw [hks]
  exact run_fnNS (us := []) (vs := []) F hr hb (hx σ) I2 .nil rz rfl l2 q2
theorem run_makeS {pins : List (Addr × Obj)} {σ : St} {H : Hp} {s : Shared} {Q : VK} {us : List Value} {vs : List V} (M : Mk X.K C f) (F : FnOk X.prog X.w X.K X.mg X.base CX k f fd ps sp) (hr : Room (k + 1) X.A) (hb : Binds X.K fd ps [])
    (hx : PassesAt CX X σ (E σ)) (I : Inv X pins σ H s) (r : Vals vs us)
    (h : ∀ x dx, H x = none → H dx = none → dx ≠ x → sp (.ref x :: vs) (upd (upd H dx (.own x)) x (.ins C dx [])) (fun v H2 => v = .non ∧ Q (.ref x) H2) (E σ)) :
    wpAny (model X.prog X.w) X.A (call (.ref C) us) (EP X pins σ Q) X.xe s := by
  have hq := h (s.heap.objs.size + 1) s.heap.objs.size (I.hok.fresh (Nat.le_succ _)) (I.hok.fresh (Nat.le_refl _)) (Nat.ne_of_lt (Nat.lt_succ_self _))
  have I2 := Inv.made (C := C) I
  have r2 : Vals (V.ref (s.heap.objs.size + 1) :: vs) (Value.ref (s.heap.objs.size + 1) :: us) := .cons rfl r
  have hl : (Value.ref (s.heap.objs.size + 1) :: us ++ []).length = ps.length := by
    have e := r2.length
    rw [F.len _ _ _ _ hq] at e
    rw [List.append_nil]
    exact e.symm
  have hbb := hb _ (Value.ref (s.heap.objs.size + 1) :: us) I2.kIn hl
  rw [List.append_nil] at hbb
  refine wpAny_call (make_map (f := f) I.kIn M.makes M.init (beq_iff_eq.mp M.fn) (codeAny_mono (F.run _ X.stack _ _ ⟨Value.ref (s.heap.objs.size + 1) :: us, []⟩ (Value.ref (s.heap.objs.size + 1) :: us) _ _ (E σ) (hr.make C us [])
    (I2.env0.make C us []) hbb r2 hq) fun r s' hq' => ?_))
  cases r with
  | error e => exact hx pins _ _ e s' I2 hq'
  | ok fl =>
    cases fl with
    | ret u =>
      obtain ⟨v, H', I3, rv, ev, q3⟩ := I2.after hq'
      subst ev
      exact ⟨rv, ⟨V.ref (s.heap.objs.size + 1), H', I3, rfl, q3⟩⟩
    | next => exact False.elim hq'
    | brk => exact False.elim hq'
    | cont => exact False.elim hq'
/-- C(e, ..), where __init__ may raise -/
def tMakeS (C : Addr) (sp : Sp) (E : St → XK) (t : TA) : TE := fun σ H Q => t σ H fun vs H1 => ∀ x dx, H1 x = none → H1 dx = none → dx ≠ x → sp (.ref x :: vs) (upd (upd H1 dx (.own x)) x (.ins C dx [])) (fun v H2 => v = .non ∧ Q (.ref x) H2) (E σ)
theorem pe_makeS (M : Mk X.K C f) (F : FnOk X.prog X.w X.K X.mg X.base CX k f fd ps sp) (hr : Room (k + 1) X.A) (hg : Gl X x) (hm : X.mg x = some (.ref C)) (hb : Binds X.K fd ps []) (hx : ∀ σ, PassesAt CX X σ (E σ))
    (ha : PA X (e :: es) t) (hdb : (x == ("__debug__" : Str)) = false := by decide) (he : starEach (e :: es) X.env = (false, eval e X.env) :: starEach es X.env := by rfl) (hpl : (backTo pos (starEach es X.env)).any (·.1) = false := by rfl) :
    PE X (.Call (.Name x p) (e :: es) [] pos) (tMakeS C sp E t) := by
  refine ⟨fun pins s σ H Q I h => ?_⟩
  refine wpAny_Call_Name_kw (ld_glob I hg hm ?_ hdb)
  refine PySem.W.callWith_K (h₀ := X.base) I.ok.mod.kin M.kp (thn (ha.run pos pins s σ H _ I h) fun us s1 ⟨vs, H1, I1, r, q⟩ => ⟨I1.kIn, ?_⟩) he hpl
  exact run_makeS M F hr hb (hx σ) I1 r q
/-- o.m(e, ..), which may raise -/
def tMethX (C : Addr) (m : Str) (sp : Sp) (E : St → XK) (ta : TE) (t : TA) : TE := fun σ H Q => ta σ H fun x H1 => ∃ a dx fs, x = .ref a ∧ H1 a = some (.ins C dx fs) ∧ fs.lookup m = none ∧ t σ H1 fun vs H2 => sp (.ref a :: vs) H2 Q (E σ)
theorem pe_methX {pl : Sem Bool} (he : PE X o ta) (c : Cls X.K C) (hm : Meth X.K C m f) (F : FnOk X.prog X.w X.K X.mg X.base CX k f fd ps sp) (hr : Room k X.A) (hb : Binds X.K fd ps []) (hx : ∀ σ, PassesAt CX X σ (E σ)) (ha : PA X (e :: es) t)
    (hst : starEach (e :: es) X.env = (false, eval e X.env) :: starEach es X.env := by rfl) (hpl : (backTo pos (starEach es X.env)).any (·.1) = false := by rfl)
    (ht : eval (.Call (.Attribute o m apos) (e :: es) [] pos) X.env = (do
      let ov ← eval o X.env
      standAt apos.atName
      let (f, first) ← holding [ov] (getMethod ov m pl)
      callWith pos f first (backTo pos (starEach (e :: es) X.env)) (backToKw pos (keywordEach [] X.env))) := by rfl) :
    PE X (.Call (.Attribute o m apos) (e :: es) [] pos) (tMethX C m sp E ta t) := by
  refine ⟨fun pins s σ H Q I h => ?_⟩
  refine PySem.W.methodCall_KW (pl := pl) (thn (he.run pins s σ H _ I h) fun u s1 ⟨x, H1, I1, rx, a, dx, fs, ex, ea, l, q⟩ => ?_) ht
  subst ex
  obtain rfl : u = Value.ref a := rx
  refine getmeth_ok I1 ea c hm l ?_
  refine PySem.W.callWith_K (first := [.ref a]) (h₀ := X.base) I.ok.mod.kin hm.kp (thn (ha.run pos pins s1 σ H1 _ I1 q) fun us s2 ⟨vs, H2, I2, r, q2⟩ => ⟨I2.kIn, ?_⟩) hst hpl
  exact run_fnS (us := .ref a :: us) (vs := .ref a :: vs) F hr hb (hx σ) I2 (.cons rfl r) q2
/-- o.m(k = v, ..), which may raise -/
def tMethNS (C : Addr) (m : Str) (n : Nat) (sp : Sp) (gV : List V → List V → List V) (E : St → XK) (ta : TE) (tk : TA) : TE := fun σ H Q => ta σ H fun x H1 => ∃ a dx fs, x = .ref a ∧ H1 a = some (.ins C dx fs) ∧ fs.lookup m = none ∧ tk σ H1 fun zs H2 => zs.length = n ∧ sp (gV [.ref a] zs) H2 Q (E σ)
theorem pe_methNS {pl : Sem Bool} (he : PE X o ta) (c : Cls X.K C) (hm : Meth X.K C m f) (F : FnOk X.prog X.w X.K X.mg X.base CX k f fd ps sp) (hr : Room k X.A) (hb : KBn X.K fd ps 1 ks g gV) (hx : ∀ σ, PassesAt CX X σ (E σ)) (hkw : PK X kws tk)
    (hall : (backToKw pos (keywordEach kws X.env)).all (·.1.isSome) = true := by rfl) (hks : (backToKw pos (keywordEach kws X.env)).filterMap (·.1) = ks := by rfl)
    (hpl : ((backTo pos (starEach [] X.env)).any (·.1) || (backToKw pos (keywordEach kws X.env)).any (·.1.isNone)) = false := by rfl)
    (ht : eval (.Call (.Attribute o m apos) [] kws pos) X.env = (do
      let ov ← eval o X.env
      standAt apos.atName
      let (f, first) ← holding [ov] (getMethod ov m pl)
      callWith pos f first (backTo pos (starEach [] X.env)) (backToKw pos (keywordEach kws X.env))) := by rfl) :
    PE X (.Call (.Attribute o m apos) [] kws pos) (tMethNS C m ks.length sp gV E ta tk) := by
  refine ⟨fun pins s σ H Q I h => ?_⟩
  refine PySem.W.methodCall_KW (pl := pl) (thn (he.run pins s σ H _ I h) fun u s1 ⟨x, H1, I1, rx, a, dx, fs, ex, ea, l, q⟩ => ?_) ht
  subst ex
  obtain rfl : u = Value.ref a := rx
  refine getmeth_ok I1 ea c hm l ?_
  refine PySem.W.callWith_KW0 (first := [.ref a]) (h₀ := X.base) I.ok.mod.kin hm.kp hall ?_ hpl
  refine thn (hkw.run pos pins s1 σ H1 _ I1 q) fun ws s2 ⟨zs, H2, I2, rz, l2, q2⟩ => ⟨I2.kIn, ?_⟩
  rw [hks]
  exact run_fnNS (us := [.ref a]) (vs := [.ref a]) F hr hb (hx σ) I2 (.cons rfl .nil) rz rfl l2 q2
/-- a + b, which may raise -/
def tAddOS (C : Addr) (sp : Sp) (E : St → XK) (ta tb : TE) : TE := fun σ H Q => ta σ H fun x H1 => tb σ H1 fun y H2 => rAddO C sp (E σ) x y H2 Q
theorem pe_addOS {a b : Expr} {tb : TE} (hs : Spc X.K C "__add__" f) (hc : PySem.W.selfFirst X.K C = true) (F : FnOk X.prog X.w X.K X.mg X.base CX k f fd ps sp) (hr : Room k X.A) (hb : Binds X.K fd ps []) (hx : ∀ σ, PassesAt CX X σ (E σ)) (ha : PE X a ta) (hb' : PE X b tb) : PE X (.BinOp a .Add b pos) (tAddOS C sp E ta tb) := by
  refine ⟨fun pins s σ H Q I h => ?_⟩
  refine wpAny_BinOp (binT ha hb' I h fun v u s2 x y H2 I2 rx ry q => ?_)
  obtain ⟨a, dx, fs, b, dx', fs', rfl, rfl, e, e', h⟩ := q
  cases rx
  cases ry
  obtain ⟨od, J⟩ := ins_at I2 e
  obtain ⟨od', J'⟩ := ins_at I2 e'
  obtain ⟨m, F0⟩ := I2.fr
  refine PySem.W.binop_K F0 I2.ok.mod.kin J J'.type hc hs.at_ hs.fn (wpAny_mono (run_fnS F hr hb (hx σ) I2 (vs := [.ref a, .ref b]) (us := [.ref a, .ref b]) (.cons rfl (.cons rfl .nil)) h) (fun v s' q => ?_) fun _ _ z => z)
  obtain ⟨v', H', I', rv, ⟨c, rfl⟩, q⟩ := q
  cases rv
  exact ⟨.ref c, H', I', rfl, q⟩
theorem run_in1S {pins : List (Addr × Obj)} {σ : St} {H : Hp} {s : Shared} {Q : VK} {us : List Value} {vs : List V} (F : FnOk X.prog X.w X.K X.mg X.base CX k f fd ps sp) (hr : Room (k + 1) X.A) (hb : Binds X.K fd ps []) (hx : PassesAt CX X σ (E σ))
    (I : Inv X pins σ H s) (r : Vals vs us) (h : sp vs H Q (E σ)) : wpAny (model X.prog X.w) X.A.in1 (call (.ref f) us) (EP X pins σ Q) X.xe s := by
  have hl : us.length = ps.length := by rw [← r.length]; exact F.len _ _ _ _ h
  refine wpAny_call (codeAny_mono (F.run X.A.in1 X.stack s H ⟨us, []⟩ us vs Q (E σ) hr.in1 I.env0.in1 (by have q := hb s us I.kIn (by simpa using hl); simpa using q) r h) fun r s' hq => ?_)
  cases r with
  | error e => exact hx pins H s e s' I hq
  | ok fl =>
    cases fl with
    | ret u => exact I.after hq
    | next => exact False.elim hq
    | brk => exact False.elim hq
    | cont => exact False.elim hq
def tIxOS (C : Addr) (sp : Sp) (E : St → XK) (ta tb : TE) : TE := fun σ H Q => ta σ H fun x H1 => tb σ H1 fun y H2 => rIxO C sp (E σ) x y H2 Q
theorem pe_ixOS {a b : Expr} {tb : TE} (hs : Spc X.K C "__getitem__" f) (hf : PySem.W.fnIn X.K f = true) (F : FnOk X.prog X.w X.K X.mg X.base CX k f fd ps sp) (hr : Room (k + 1) X.A) (hb : Binds X.K fd ps []) (hx : ∀ σ, PassesAt CX X σ (E σ))
    (ha : PE X a ta) (hb' : PE X b tb) (hsl : ∀ o i, subscripted b true o i = runValue (.builtin "lifetime.subscript" ⟨[o, i], []⟩)) : PE X (.Subscript a b pos) (tIxOS C sp E ta tb) := by
  refine ⟨fun pins s σ H Q I h => ?_⟩
  refine Subscript_ (binT ha hb' I h fun v u s2 x y H2 I2 rx ry q => ?_)
  obtain ⟨o, dx, fs, rfl, e, h⟩ := q
  cases rx
  obtain ⟨od, J⟩ := ins_at I2 e
  obtain ⟨m, F0⟩ := I2.fr
  exact PySem.W.sub_K F0 I2.ok.mod.kin J hs.at_ hf hs.fn (run_in1S F hr hb (hx σ) I2 (vs := [.ref o, y]) (us := [.ref o, u]) (.cons rfl (.cons ry .nil)) h) (hsl _ _)
end
/-! ### try .. except X as n .. except Y as n -/
def endsAs (i : Nat) (D : Ends) : Ends := { nx := fun σ' H' => D.nx (σ'.set i none) H', rt := D.rt, bk := fun σ' H' => D.bk (σ'.set i none) H', ct := fun σ' H' => D.ct (σ'.set i none) H' }
def wManyAs (K : PySem.W.Frag) (i : Nat) (Wout : WX) (D : Ends) : List (Value × (Addr → Value → Option Addr → TS)) → WX
  | [] => Wout
  | (c, ts) :: r => fun cls d σ H => ∃ b, PySem.W.exmOne K cls c = some b ∧ (b = true → ∀ a, H a = none → ts a cls d (endsAs i D) (σ.set i (some (.ref a))) H) ∧ (b = false → wManyAs K i Wout D r cls d σ H)
inductive HdsAs (X : Cx) (n : Str) : List ExceptHandler → List (Value × (Addr → Value → Option Addr → TS)) → Prop
  | nil : HdsAs X n [] []
  | cons {x : Str} {c : Value} {ts : Addr → Value → Option Addr → TS} {b₀ : Stmt} {suite : List Stmt} {np pos' : Pos} {hds : List ExceptHandler} {l : List (Value × (Addr → Value → Option Addr → TS))} (hc : Names X x c)
      (hsu : ∀ (a : Addr) (oe : Obj) (cls : Value) (d : Option Addr) (pn : List (Addr × Obj)), Zc cls d oe → (∃ vs, oe.data = .fields vs) → PSs (X.suite a ((a, oe) :: pn)) (b₀ :: suite) (ts a cls d)) (r : HdsAs X n hds l) :
      HdsAs X n (.ExceptHandler (some (.Name x np)) (some n) (b₀ :: suite) pos' :: hds) ((c, ts) :: l)
section
variable {X : Cx} {n : Str} {i : Nat} {body : List Stmt} {h₀ : ExceptHandler} {hds : List ExceptHandler} {l : List (Value × (Addr → Value → Option Addr → TS))} {pos : Pos} {tb : WX → TS} {Wout : WX}
theorem ps_try_manyAs (hs : X.stack = X.env :: X.outer) (hf : X.env.frame = some X.env.locals) (hN : X.N.Nodup) (hi : X.N[i]? = some n) (hln : X.env.kindOf n = some .local) (tk : Takes X Wout)
    (hb : ∀ (W : WX) (pn : List (Addr × Obj)) (xe : Value → Shared → Prop), Takes (X.tr pn xe) W → PassesOwn (model X.prog X.w) X.A X.env xe → PSs (X.tr pn xe) body (tb W))
    (hh : HdsAs X n (h₀ :: hds) l) : PS X (.Try body (h₀ :: hds) [] [] pos) (fun D σ H => tb (wManyAs X.K i Wout D l) D σ H) := by
  refine ⟨fun pins s σ H D I h => ?_⟩
  have ok := I.ok
  have hfr : X.A.frames = some (X.env :: X.outer) := by rw [ok.frames, hs]
  have hloc : Loc X.env.scope n := .inl hln
  refine wpAny_Try_except ?_
  refine wpAny_mono ((hb (wManyAs X.K i Wout D l) (X.pn ++ pins) (fun e s₁ => wpAny (model X.prog X.w) X.A (noteFrame e X.env) (fun _ s₂ => wpAny (model X.prog X.w) X.A (setFlight e none) (fun _ s₃ =>
    wpAny (model X.prog X.w) X.A (handleBy e X.env (h₀ :: hds)) (SP X pins D) X.xe s₃) X.xe s₂) X.xe s₁) (fun u s' xx => ?_) PassesOwn.looking).run [] s σ H D (I.toTry _) h) (fun f s1 hsp => ?_) (fun e s1 he => he)
  · obtain ⟨a, B, sI, pins', σ', H', cls, d, rfl, J', nb, up, sky, na, os, ag, w⟩ := xx
    have J : Inv X pins σ' H' sI := J'.ofTry ok
    have sky' : Sky B (X.env :: X.outer) a (Zc cls d) X.env.locals s'.heap := by rw [← hs]; exact sky
    show wpAny (model X.prog X.w) X.A (noteFrame (.ref a) X.env) _ _ _
    refine Sky.land Zc.steady hfr hf sky' fun h3 fl3 up3 => ?_
    have J3 : Inv X pins σ' H' { s' with heap := h3 } := J.landed nb fl3.1 (up.trans up3) os ag
    obtain ⟨oe3, vs3, he3, hz3, hd3⟩ := fl3.there
    have notFr : ∀ {h : Heap} {o : Obj} {vs : Array Value}, h.FunFrames B (X.env :: X.outer) → h.get? a = some o → o.data = .fields vs → a ∉ frs (X.env :: X.outer) := fun {h o vs} ff e dd hm => by
      obtain ⟨_, o', e', hnf⟩ := ff.mem hm
      rw [e] at e'; cases e'
      exact hnf _ dd
    have nfr := notFr fl3.2.2.1 he3 hd3
    have nL : a ≠ X.env.locals := fun z => nfr (List.mem_filterMap.mpr ⟨X.env, List.mem_cons_self, by rw [hf, z]⟩)
    have nF : a ∉ X.fs := fun hm => by
      obtain ⟨e, he, q⟩ := List.mem_filterMap.mp hm
      exact nfr (List.mem_filterMap.mpr ⟨e, List.mem_cons_of_mem _ he, q⟩)
    have S3 := J3.suite he3 hd3 na nL nF
    have go : ∀ {hds' : List ExceptHandler} {l' : List (Value × (Addr → Value → Option Addr → TS))}, HdsAs X n hds' l' → wManyAs X.K i Wout D l' cls d σ' H' →
        wpAny (model X.prog X.w) X.A (handleBy (.ref a) X.env hds') (SP X pins D) X.xe { s' with heap := h3 } := by
      intro hds' l' hk
      induction hk with
      | nil =>
        intro w
        refine wpAny_handleBy_nil ?_
        obtain ⟨k1, k2, k3, oe, vs, T, oT, ts', he, hz, hd, h1, hr⟩ := id fl3
        unfold PySem.passOn
        refine wpAny_bind (wpAny_field he hd h1 ?_)
        rw [if_neg (show ¬ ((Value.ref T == Value.none) = true) from by simp)]
        have fin : wpAny (model X.prog X.w) X.A (setFlight (.ref a) X.env.frame) (fun _ s4 => wpAny (model X.prog X.w) X.A (throw (.ref a) : Sem Flow) (SP X pins D) X.xe s4) X.xe { s' with heap := h3 } := by
          rw [hf]
          refine HandSPX.setFlight_upZ fl3 fun h4 hh4 up4 => wpAny_throw (tk _ _ ?_)
          exact ⟨a, B, sI, pins, σ', H', cls, d, rfl, J, nb, (up.trans up3).trans up4, .inr (.inr (by rw [hs]; exact hh4)), na, os, ag, w⟩
        first
          | exact wpAny_bind (wpAny_pure (wpAny_bind fin))
          | exact wpAny_bind fin
      | @cons x c ts b₀ suite np pos' hds2 l2 hc hsu r ih =>
        intro w
        obtain ⟨b, hb1, hyes, hno⟩ := w
        refine wpAny_handleBy_cons (codeAny_handlers_test ?_) (by intro q; cases q)
        have LT : PySem.W.Looks (model X.prog X.w) h3 (typeOf (.ref a)) cls := fun A Q E s k q => wpAny_typeOf_ref (k _ _ he3) (by rw [hz3.1]; exact q)
        have LM := PySem.W.exm_one (M := model X.prog X.w) (J3.kIn) LT hb1
        have test : ∀ {Q : Value → Shared → Prop} {E : Value → Shared → Prop}, Q c { s' with heap := h3 } → wpAny (model X.prog X.w) (X.A.mark (some (.ref a))) (eval (.Name x np) X.env) Q E { s' with heap := h3 } := fun {Q E} q => by
          obtain ⟨hg, hdbg, hm | ⟨hm, hv, hnn⟩⟩ := hc
          · exact ld_glob (X := X.suite a ((a, oe3) :: (X.pn ++ pins))) S3 hg hm q hdbg
          · exact ld_blt (X := X.suite a ((a, oe3) :: (X.pn ++ pins))) S3 hg hm hv q hnn hdbg
        refine test (LM.here ?_)
        cases b with
        | true =>
          refine codeAny_handlers_suite_as ?_
          refine HandSPX.lands_againZ fl3 fun h4 fl4 up4 => ?_
          have J4 : Inv X pins σ' H' { s' with heap := h4 } := J.landed nb fl4.1 ((up.trans up3).trans up4) os ag
          obtain ⟨oe4, vs4, he4, hz4, hd4⟩ := fl4.there
          have S4 := J4.suite he4 hd4 na nL nF
          refine store_ok (X := X.suite a ((a, oe4) :: (X.pn ++ pins))) (v := .ref a) S4 hN hi hloc rfl (fun s5 S5 => ?_) (.inr hln)
          refine wpAny_mono ((hsu a oe4 cls d (X.pn ++ pins) hz4 ⟨_, hd4⟩).run [] s5 _ H' _ S5 (hyes rfl a na)) (fun f s6 hsp => ?_) (fun _ _ z => False.elim z)
          have end_ : ∀ {σ6 : St} {H6 : Hp} {Q : Shared → Prop}, Inv (X.suite a ((a, oe4) :: (X.pn ++ pins))) [] σ6 H6 s6 → (∀ s7, Inv X pins (σ6.set i none) H6 s7 → Q s7) →
              wpAny (model X.prog X.w) X.A (do bindName X.env n .none; unbindBehindTheSuite X.env n pos') (fun _ s7 => Q s7) X.xe s6 := fun {σ6 H6 Q} S6 hq => gone_ok (S6.unsuite ok) hN hi hln hq
          cases f with
          | next =>
            obtain ⟨σ6, H6, S6, q6⟩ := hsp
            exact end_ S6 fun s7 J7 => ⟨_, _, J7, q6⟩
          | brk =>
            obtain ⟨σ6, H6, S6, q6⟩ := hsp
            exact end_ S6 fun s7 J7 => ⟨_, _, J7, q6⟩
          | cont =>
            obtain ⟨σ6, H6, S6, q6⟩ := hsp
            exact end_ S6 fun s7 J7 => ⟨_, _, J7, q6⟩
          | ret u =>
            obtain ⟨v6, σ6, H6, S6, r6, q6⟩ := hsp
            exact end_ S6 fun s7 J7 => ⟨_, _, _, J7, r6, q6⟩
        | false =>
          show wpAny _ X.A (handleBy (.ref a) X.env hds2) _ _ _
          exact ih (hno rfl)
    exact go hh w
  · cases f with
    | next =>
      obtain ⟨σ', H', J', q⟩ := hsp
      exact wpAny_execs_nil ⟨σ', H', J'.ofTry ok, q⟩
    | brk =>
      obtain ⟨σ', H', J', q⟩ := hsp
      exact ⟨σ', H', J'.ofTry ok, q⟩
    | cont =>
      obtain ⟨σ', H', J', q⟩ := hsp
      exact ⟨σ', H', J'.ofTry ok, q⟩
    | ret u =>
      obtain ⟨v, σ', H', J', r, q⟩ := hsp
      exact ⟨v, σ', H', J'.ofTry ok, r, q⟩
end
end L2
/-! ### isinstance of a caught error, with or without fields -/
namespace PySem.W
open PySem PySem.Spec PySem.Calls PyProof.Rows
section
variable {prog : Program} {w : World} {A : Around} {E : Value → Shared → Prop} {s : Shared} {K : Frag} {x D : Addr} {ox : Obj} {od : Option Obj}
theorem findObj_dataA {C : Addr} {name : Str} {a g : Value} (hc : (clsIn K C).isSome = true) (ha : findIn K (.ref C) name = some (some a)) (hg : specialIn K a "__get__" = some (some g)) (ht : takesIn K a = some true) : findObj K C od name = some (.bind g a) := by
  obtain ⟨cd, hc⟩ := Option.isSome_iff_exists.mp hc
  unfold findObj
  rw [hc, Option.bind_some, ha, Option.bind_some]
  simp [hg, ht]
theorem kin_classX {Q : Option Value → Shared → Prop} (hga : findIn K (.ref D) "__getattribute__" = some (some (.builtin "BaseException.__getattribute__"))) (hgt : findIn K (.ref D) "__getattr__" = some none) (hsub : subIn K (.ref D) (.type "BaseException") = some true)
    (hdct : hasDictIn K D = true) (ha : findIn K (.ref D) "__class__" = some (some (.builtin "object.__class__")))
    (hn : specialIn K (.builtin "object.__class__") "__get__" = some (some (.builtin "getset_descriptor.__get__"))) (htk : takesIn K (.builtin "object.__class__") = some true) (hm : mroIn K D (.type "object") = some true)
    (X : K.In s.heap) (I : InstAt s.heap x ox D od) (h : Q (some (.ref D)) { s with toks := s.toks + 1 }) : wpAny (model prog w) A (getAttr? (.ref x) "__class__") Q E s := by
  have hf : findObj K D od "__class__" = some (.bind (.builtin "getset_descriptor.__get__") (.builtin "object.__class__")) := findObj_dataA (by obtain ⟨cd, hc, _⟩ := any_some hdct; rw [hc]; rfl) ha hn htk
  obtain ⟨hp, g, d, t, os⟩ := s
  have L0 := I.type (M := model prog w)
  have L1 := looks_findIn (M := model prog w) X hga
  have L2 := looks_findIn (M := model prog w) X hgt
  have L3 := looks_find (M := model prog w) X I hf
  have sub : Looks (model prog w) hp (isInstance (.ref x) (.type "BaseException")) true := L0.andThen (looks_subIn X hsub)
  have hx0 : (false && onTheHeap (Value.builtin "BaseException.__getattribute__")) = false := rfl
  have hx2 : (Value.builtin "BaseException.__getattribute__" == Value.builtin "object.__getattribute__") = false := by decide +kernel
  have hx1 : (onTheHeap (Value.ref D) && Value.builtin "BaseException.__getattribute__" == Value.builtin "object.__getattribute__") = false := by rw [hx2]; rfl
  unfold getAttr? getAttrBy? getAttrBy
  refine wpAny_bind (wpAny_mkText (wpAny_bind (wpAny_attempt (wpAny_holding (wpAny_bind (L0.at (wpAny_bind (L1.at ?_))))))))
  show wpAny _ _ (if (onTheHeap (Value.ref D) && Value.builtin "BaseException.__getattribute__" == Value.builtin "object.__getattribute__") = true then _ else _) _ _ _
  rw [hx1, if_neg Bool.false_ne_true]
  unfold getAttrByItsOwn hookBefore
  refine wpAny_bind ?_
  rw [if_pos (show onTheHeap (Value.ref D) = true from rfl)]
  refine L2.at ?_
  refine wpAny_bind (wpAny_attempt (wpAny_holding ?_))
  unfold callGetattribute
  rw [hx0, if_neg Bool.false_ne_true]
  unfold boundAndCalled
  rw [PySem.F.excAttr_ValueError.ga.bind (.ref x)]
  refine wpAny_bind (wpAny_pure ?_)
  show wpAny _ _ (call (.builtin "BaseException.__getattribute__") [.ref x, .str "__class__" t]) _ _ _
  refine wpAny_call (codeAny_call_builtin PySem.F.excAttr_ValueError.ga.plain PySem.F.entry_bexc_ga ?_)
  refine @check_slot (model prog w) _ _ ⟨hp, g, d, t + 1, os⟩ "BaseException.__getattribute__" "BaseException" "__getattribute__" (.ref x) [.str "__class__" t] [] _ (by decide +kernel) (by decide +kernel) sub (PySem.F.args_bexc_ga (.ref x) (.str "__class__" t)) ?_
  unfold Builtin.«object.__getattribute__»
  refine wpAny_bind (wpAny_of_eq (a := ((Value.ref x : Value), [Value.str "__class__" t])) (by first | rfl | (simp only [slotArgs]; rfl)) ?_)
  refine wpAny_bind (wpAny_pure (wpAny_bind (L0.at (wpAny_bind (L3.at ?_)))))
  show wpAny _ _ (holding [Value.builtin "object.__class__"] (call (.builtin "getset_descriptor.__get__") [.builtin "object.__class__", .ref x, .ref D]) >>= ret) _ _ _
  refine wpAny_bind (wpAny_holding (wpAny_call (class_get (s := ⟨hp, g, d, t + 1, os⟩) (ox := ox) (od := od) X I hm ?_)))
  refine wpAny_pure ?_
  show wpAny _ _ (handedOut (.ref D)) _ _ _
  rw [handedOut_of (v := .ref D) rfl]
  first
    | exact wpAny_pure (wpAny_pure h)
    | exact wpAny_pure h
    | exact wpAny_pure (wpAny_bind (wpAny_pure (wpAny_pure h)))
theorem kitx_excX (hga : findIn K (.ref D) "__getattribute__" = some (some (.builtin "BaseException.__getattribute__"))) (hgt : findIn K (.ref D) "__getattr__" = some none) (hsub : subIn K (.ref D) (.type "BaseException") = some true) (hdct : hasDictIn K D = true) (ha : findIn K (.ref D) "__class__" = some (some (.builtin "object.__class__")))
    (hn : specialIn K (.builtin "object.__class__") "__get__" = some (some (.builtin "getset_descriptor.__get__"))) (htk : takesIn K (.builtin "object.__class__") = some true) (hm : mroIn K D (.type "object") = some true) :
    KitX K (.ref x) (.ref D) (fun h => InstAt h x ox D od) where
  ty := fun _ _ _ I => I.type
  it := fun _ _ X _ => by
    obtain ⟨cdD, hcD, _⟩ := any_some hdct
    unfold clsIn at hcD
    split at hcD
    · rename_i c' d' cd' sl' ho
      intro A' Q' E' s' k q
      unfold isType loadHead
      exact wpAny_bind (wpAny_loadPart (k _ _ (X _ _ ho)) (wpAny_pure q))
    · cases hcD
  ne := fun h tp dd its n sl X htp => by
    obtain ⟨cdD, hcD, _⟩ := any_some hdct
    refine Bool.eq_false_iff.mpr fun q => ?_
    have e : D = tp := Value.ref.inj (beq_iff_eq.mp q)
    subst e
    unfold clsIn at hcD
    split at hcD
    · rename_i c' d' cd' sl' ho
      have z := (X _ _ ho).symm.trans htp
      cases z
    · cases hcD
  ca := fun X I k => kin_classX hga hgt hsub hdct ha hn htk hm X I k
end
end PySem.W
namespace L2
open PySem PySem.Spec PyProof.Rows
/-- isinstance(e, c), e the exception that the suite holds (class cls, dict d) -/
def rIsX (K : PySem.W.Frag) (a : Addr) (cls : Value) (d : Option Addr) : List V → Hp → VK → Prop := fun xs H Q => ∃ (D : Addr) (c : V) (cv : Value) (b : Bool), cls = .ref D ∧ ExcC K D ∧ xs = [.ref a, c] ∧ (∀ u, RelV c u → u = cv) ∧ PySem.W.kitOne K (.ref D) cv = some b ∧
  (∀ dd, d = some dd → ∃ fs, H dd = some (.xd fs)) ∧ Q (.bl b) H
theorem call_isX {X : Cx} {a : Addr} {cls : Value} {d : Option Addr} {oe : Obj} {pn : List (Addr × Obj)} (hz : Zc cls d oe) (hf : ∃ vs, oe.data = .fields vs) : CallR (X.suite a ((a, oe) :: pn)) (.builtin "isinstance") (rIsX X.K a cls d) := by
  intro pins s σ H xs us Q I r h
  obtain ⟨D, c, cv, b, rfl, C, rfl, hcv, e, hd, q⟩ := h
  cases r with
  | cons rx rr =>
    cases rr with
    | cons rt rr =>
      cases rr
      cases rx
      have ec := hcv _ rt
      subst ec
      obtain ⟨hget, _⟩ := I.pin (a, oe) (List.mem_append.mpr (.inl List.mem_cons_self))
      obtain ⟨vs, hv⟩ := hf
      have J : ∃ od, PySem.W.InstAt s.heap a oe D od := by
        cases d with
        | none =>
          refine ⟨none, ?_⟩
          obtain ⟨oc, od, oda, osl⟩ := oe
          obtain ⟨h1, h2⟩ := hz
          dsimp only at h1 h2 hv
          subst h1 h2 hv
          exact ⟨hget, rfl, rfl, trivial⟩
        | some dd =>
          obtain ⟨fs, hfs⟩ := hd dd rfl
          have hx : ObjOk X.prog X.w H s.heap dd (.xd fs) := I.hok dd _ hfs
          obtain ⟨mA, hns, hr⟩ := hx
          obtain ⟨od, ho, hl⟩ := lookIn_ns hns
          exact ⟨some od, ⟨hget, hz.1, by unfold PySem.W.notCls; rw [hv] <;> rfl, by rw [hz.2]; exact ho⟩⟩
      obtain ⟨od, J⟩ := J
      exact PySem.W.kia_one (PySem.W.kitx_excX C.hg C.hk C.hs C.hd C.ha C.hn C.ht C.hm) I.kIn J e (fun z => nomatch z) fun tk => ⟨.bl b, H, I.kept (t' := tk) fun _ _ z => z, rfl, q⟩
section
variable {K : PySem.W.Frag} {D F : Addr}
theorem kit_yes (hd : PySem.W.hasDictIn K F = true) (ht : PySem.W.typeIn K (.ref F) = some (.type "type")) (h : PySem.W.subIn K (.ref D) (.ref F) = some true) : PySem.W.kitOne K (.ref D) (.ref F) = some true := by
  unfold PySem.W.kitOne
  split
  · rfl
  · obtain ⟨cd, hc, _⟩ := PySem.W.any_some hd
    show (if ((PySem.W.clsIn K F).isSome && PySem.W.typeIn K (.ref F) == some (.type "type")) = true then PySem.W.subIn K (.ref D) (.ref F) else none) = some true
    rw [hc, ht]; exact h
theorem kit_no (hd : PySem.W.hasDictIn K F = true) (ht : PySem.W.typeIn K (.ref F) = some (.type "type")) (h0 : PySem.W.subIn K (.ref D) (.ref D) = some true) (h : PySem.W.subIn K (.ref D) (.ref F) = some false) : PySem.W.kitOne K (.ref D) (.ref F) = some false := by
  have hne : (Value.ref D == Value.ref F) = false := by
    refine beq_eq_false_iff_ne.mpr fun z => ?_
    cases z
    rw [h] at h0; cases h0
  unfold PySem.W.kitOne
  rw [hne, if_neg (by decide)]
  obtain ⟨cd, hc, _⟩ := PySem.W.any_some hd
  show (if ((PySem.W.clsIn K F).isSome && PySem.W.typeIn K (.ref F) == some (.type "type")) = true then PySem.W.subIn K (.ref D) (.ref F) else none) = some false
  rw [hc, ht]; exact h
theorem kit_ve (h : PySem.W.subIn K (.ref D) (.type "ValueError") = some true) : PySem.W.kitOne K (.ref D) (.type "ValueError") = some true := by
  have hne : (Value.ref D == Value.type "ValueError") = false := beq_eq_false_iff_ne.mpr fun z => by cases z
  unfold PySem.W.kitOne
  rw [hne, if_neg (by decide)]
  show (if PySem.W.kitMeta "ValueError" = true then PySem.W.subIn K (.ref D) (.type "ValueError") else none) = some true
  rw [if_pos (by decide +kernel)]; exact h
end
end L2

/-! # Pure states: values without addresses; lists and dicts as cells -/
namespace Y
open PySem L2
inductive AV where
  | d (x : PyData)
  | tup (xs : List AV)
  | cel (i : Nat)
  | sub (i j : Nat)
  | scr (ds : List PyData)
  | ty (s : String)
  | dct
  | raw (a : Addr)
  | exn (a d : Addr) (f : Str) (x : AV)
inductive Cell where
  | l (ds : List PyData)
  | a (xs : List AV)
  | k (lk : Option (Obj × List (Key × V))) (kvs : List (Key × AV))
  | g (ix : List Nat) (rows : List (List PyData))
  | m (lk : Option Obj) (ks : List (Key × Nat)) (rows : List (List PyData))
  | x
abbrev Own := List (List Addr)
abbrev AEnv := List (Option AV)
def ScrA (K : PySem.W.Frag) (C : Addr) (F : Hp) (a : Addr) (ds : List PyData) : Prop := ∃ dx v, F a = some (.ins C dx (putF "kept_steps" v [])) ∧ Dp K F v (.tuple ds)
mutual
inductive AR (K : PySem.W.Frag) (C : Addr) (F : Hp) (as : Own) : AV → V → Prop
  | d {x : PyData} {v : V} : Dp K F v x → AR K C F as (.d x) v
  | tup {a : Addr} {vs : List V} {xs : List AV} : SqT K F a vs → ARs K C F as xs vs → AR K C F as (.tup xs) (.ref a)
  | cel {i : Nat} {p : Addr} {r : List Addr} : as[i]? = some (p :: r) → AR K C F as (.cel i) (.ref p)
  | sub {i j : Nat} {q : Addr} {own : List Addr} : as[i]? = some own → own[j + 1]? = some q → AR K C F as (.sub i j) (.ref q)
  | scr {a : Addr} {ds : List PyData} : ScrA K C F a ds → AR K C F as (.scr ds) (.ref a)
  | ty {s : String} : AR K C F as (.ty s) (.ty s)
  | dct {p : Addr} : F p = some (.dK []) → AR K C F as .dct (.ref p)
  | raw {a : Addr} : AR K C F as (.raw a) (.ref a)
  | exn {a d : Addr} {f : Str} {x : AV} {v : V} : F d = some (.xd [(f, v)]) → AR K C F as x v → AR K C F as (.exn a d f x) (.ref a)
inductive ARs (K : PySem.W.Frag) (C : Addr) (F : Hp) (as : Own) : List AV → List V → Prop
  | nil : ARs K C F as [] []
  | cons {x : AV} {v : V} {xs : List AV} {vs : List V} : AR K C F as x v → ARs K C F as xs vs → ARs K C F as (x :: xs) (v :: vs)
end
def Pre (as as' : Own) : Prop := ∀ (i : Nat) (own : List Addr), as[i]? = some own → ∃ r, as'[i]? = some (own ++ r)
section
variable {K : PySem.W.Frag} {C : Addr} {F F' H H' : Hp} {as as' : Own}
theorem ScrA.same {a : Addr} {ds : List PyData} (s : Same F F') (h : ScrA K C F a ds) : ScrA K C F' a ds := by
  obtain ⟨dx, v, h1, h2⟩ := h
  exact ⟨dx, v, s _ _ h1, s.dp h2⟩
mutual
theorem AR.mono (s : Same F F') (p : Pre as as') : ∀ {x : AV} {v : V}, AR K C F as x v → AR K C F' as' x v
  | .d _, _, h => by cases h with | d h => exact .d (s.dp h)
  | .tup _, _, h => by cases h with | tup h1 h2 => exact .tup (s.sqT h1) (ARs.mono s p h2)
  | .cel i, _, h => by
    cases h with | cel h =>
    obtain ⟨r, e⟩ := p _ _ h
    exact .cel e
  | .sub i j, _, h => by
    cases h with | sub h1 h2 =>
    obtain ⟨r, e⟩ := p _ _ h1
    exact .sub e (by rw [List.getElem?_append_left (List.getElem?_eq_some_iff.mp h2).1]; exact h2)
  | .scr _, _, h => by cases h with | scr h => exact .scr (h.same s)
  | .ty _, _, h => by cases h; exact .ty
  | .dct, _, h => by cases h with | dct h => exact .dct (s _ _ h)
  | .raw _, _, h => by cases h; exact .raw
  | .exn _ _ _ _, _, h => by cases h with | exn h1 h2 => exact .exn (s _ _ h1) (AR.mono s p h2)
theorem ARs.mono (s : Same F F') (p : Pre as as') : ∀ {xs : List AV} {vs : List V}, ARs K C F as xs vs → ARs K C F' as' xs vs
  | [], _, h => by cases h; exact .nil
  | x :: xs, _, h => by cases h with | cons h1 h2 => exact .cons (AR.mono s p h1) (ARs.mono s p h2)
end
theorem ARs.length : ∀ {xs : List AV} {vs : List V}, ARs K C F as xs vs → xs.length = vs.length
  | [], _, h => by cases h; rfl
  | x :: xs, _, h => by cases h with | cons _ h2 => simp [ARs.length h2]
theorem ARs.get : ∀ {xs : List AV} {vs : List V} {i : Nat} {x : AV}, ARs K C F as xs vs → xs[i]? = some x → ∃ v, vs[i]? = some v ∧ AR K C F as x v
  | [], _, _, _, _, e => by simp at e
  | x :: xs, _, 0, _, h, e => by
    cases h with | cons h1 h2 =>
    simp at e; subst e; exact ⟨_, rfl, h1⟩
  | x :: xs, _, i + 1, _, h, e => by
    cases h with | cons h1 h2 =>
    obtain ⟨v, e1, e2⟩ := ARs.get (i := i) h2 (by simpa using e)
    exact ⟨v, by simpa using e1, e2⟩
theorem ARs.append : ∀ {xs ys : List AV} {vs ws : List V}, ARs K C F as xs vs → ARs K C F as ys ws → ARs K C F as (xs ++ ys) (vs ++ ws)
  | [], _, _, _, h, g => by cases h; exact g
  | x :: xs, _, _, _, h, g => by cases h with | cons h1 h2 => exact .cons h1 (ARs.append h2 g)
theorem ARs.set : ∀ {xs : List AV} {vs : List V} {x : AV} {v : V} (i : Nat), ARs K C F as xs vs → AR K C F as x v → ARs K C F as (xs.set i x) (vs.set i v)
  | [], _, _, _, _, h, _ => by cases h; exact .nil
  | _ :: _, _, _, _, 0, h, g => by cases h with | cons h1 h2 => exact .cons g h2
  | _ :: _, _, _, _, i + 1, h, g => by cases h with | cons h1 h2 => exact .cons h1 (ARs.set i h2 g)
theorem ARs.take : ∀ {xs : List AV} {vs : List V} (n : Nat), ARs K C F as xs vs → ARs K C F as (xs.take n) (vs.take n)
  | _, _, 0, _ => by simp; exact .nil
  | [], _, n + 1, h => by cases h; exact .nil
  | _ :: _, _, n + 1, h => by cases h with | cons h1 h2 => exact .cons h1 (ARs.take n h2)
theorem ARs.data : ∀ {ds : List PyData} {vs : List V}, DpAll K F vs ds → ARs K C F as (ds.map AV.d) vs
  | [], _, h => by cases h; exact .nil
  | d :: ds, _, h => by cases h with | cons h1 h2 => exact .cons (.d h1) (ARs.data h2)
theorem ARs.toData : ∀ {ds : List PyData} {vs : List V}, ARs K C F as (ds.map AV.d) vs → DpAll K F vs ds
  | [], _, h => by cases h; exact .nil
  | d :: ds, _, h => by cases h with | cons h1 h2 => cases h1 with | d h1 => exact .cons h1 (ARs.toData h2)
theorem Pre.refl : Pre as as := fun i own h => ⟨[], by rw [List.append_nil]; exact h⟩
theorem Pre.trans {as'' : Own} (a : Pre as as') (b : Pre as' as'') : Pre as as'' := fun i own h => by
  obtain ⟨r, e⟩ := a i own h
  obtain ⟨q, e2⟩ := b i _ e
  exact ⟨r ++ q, by rw [e2, List.append_assoc]⟩
theorem Pre.snoc {own : List Addr} : Pre as (as ++ [own]) := fun i o h => ⟨[], by rw [List.getElem?_append_left (List.getElem?_eq_some_iff.mp h).1, List.append_nil]; exact h⟩
/-- rows of a grid -/
inductive GridOk (K : PySem.W.Frag) (F H : Hp) : List Addr → List (List PyData) → Prop
  | nil : GridOk K F H [] []
  | cons {q : Addr} {qs : List Addr} {vs : List V} {r : List PyData} {rs : List (List PyData)} : H q = some (.lst vs) → DpAll K F vs r → GridOk K F H qs rs → GridOk K F H (q :: qs) (r :: rs)
/-- locked or not -/
def lkO : Option Obj → HO → HO
  | none, u => u
  | some o, u => .frz o u
/-- while it is locked, what stood there -/
def lkK : Option (Obj × List (Key × V)) → List (Key × V) → Prop
  | none, _ => True
  | some x, kvs => kvs = x.2
def rowsV (qs : List Addr) (ix : List Nat) : List V := ix.map fun j => V.ref (qs.getD j 0)
def rowsK (qs : List Addr) (ks : List (Key × Nat)) : List (Key × V) := ks.map fun x => (x.1, V.ref (qs.getD x.2 0))
inductive CellOk (K : PySem.W.Frag) (C : Addr) (F : Hp) (as : Own) (H : Hp) : List Addr → Cell → Prop
  | l {p : Addr} {vs : List V} {ds : List PyData} : H p = some (.lst vs) → DpAll K F vs ds → CellOk K C F as H [p] (.l ds)
  | a {p : Addr} {vs : List V} {xs : List AV} : H p = some (.lst vs) → ARs K C F as xs vs → CellOk K C F as H [p] (.a xs)
  | k {p : Addr} {lk : Option (Obj × List (Key × V))} {kvs : List (Key × V)} {xs : List (Key × AV)} : lkK lk kvs → H p = some (lkO (lk.map Prod.fst) (.dK kvs)) → kvs.map Prod.fst = xs.map Prod.fst → ARs K C F as (xs.map Prod.snd) (kvs.map Prod.snd) → CellOk K C F as H [p] (.k lk xs)
  | g {p : Addr} {qs : List Addr} {ix : List Nat} {rows : List (List PyData)} : H p = some (.lst (rowsV qs ix)) → (∀ j ∈ ix, j < rows.length) → GridOk K F H qs rows → CellOk K C F as H (p :: qs) (.g ix rows)
  | m {p : Addr} {qs : List Addr} {lk : Option Obj} {ks : List (Key × Nat)} {rows : List (List PyData)} : H p = some (lkO lk (.dK (rowsK qs ks))) → (∀ x ∈ ks, x.2 < rows.length) → GridOk K F H qs rows → CellOk K C F as H (p :: qs) (.m lk ks rows)
  | x {own : List Addr} : CellOk K C F as H own .x
/-- no tuple -/
def NoTup : HO → Prop
  | .tup _ => False
  | .frz _ u => match u with
    | .tup _ => False
    | _ => True
  | _ => True
structure Wd (K : PySem.W.Frag) (C : Addr) (F : Hp) (as : Own) (cs : List Cell) (H : Hp) : Prop where
  fro : Same F H
  dis : ∀ (i : Nat) own, as[i]? = some own → ∀ b ∈ own, F b = none ∧ H b ≠ none
  sep : ∀ (i j : Nat) own own', as[i]? = some own → as[j]? = some own' → i ≠ j → ∀ b ∈ own, b ∉ own'
  nd : ∀ (i : Nat) own, as[i]? = some own → own.Nodup
  len : as.length = cs.length
  ok : ∀ (i : Nat) own c, as[i]? = some own → cs[i]? = some c → CellOk K C F as H own c
  mu : ∀ (i : Nat) own, as[i]? = some own → ∀ b ∈ own, ∀ o, H b = some o → NoTup o
  tp : ∀ b o, H b = some o → ¬ NoTup o → F b = some o
/-- b is one of the cells' addresses -/
def inA (as : Own) (b : Addr) : Prop := ∃ (i : Nat) (own : List Addr), as[i]? = some own ∧ b ∈ own
/-- from one world to a later one; the first n cells are what they were -/
structure Stp (n : Nat) (F : Hp) (as : Own) (H : Hp) (F' : Hp) (as' : Own) (H' : Hp) : Prop where
  f : Same F F'
  a : ∀ i < n, ∀ own, as[i]? = some own → ∃ r, as'[i]? = some (own ++ r)
  fr : ∀ b o, H b = some o → ¬ inA as b → H' b = some o
  dm : ∀ b, H' b = none → H b = none
  nf : ∀ b o, F' b = some o → F b = some o ∨ H b = none
  na : ∀ b, inA as' b → inA as b ∨ H b = none
theorem Stp.refl {n : Nat} : Stp n F as H F as H := ⟨Same.refl F, fun i _ own h => ⟨[], by rw [List.append_nil]; exact h⟩, fun _ _ h _ => h, fun _ h => h, fun _ _ h => .inl h, fun _ h => .inl h⟩
theorem Stp.trans {n : Nat} {F'' : Hp} {as'' : Own} {H'' : Hp} (s : Stp n F as H F' as' H') (t : Stp n F' as' H' F'' as'' H'') : Stp n F as H F'' as'' H'' := by
  refine ⟨s.f.trans t.f, fun i hi own h => ?_, fun b o h hn => ?_, fun b h => s.dm b (t.dm b h), fun b o h => ?_, fun b h => ?_⟩
  · obtain ⟨r, e⟩ := s.a i hi own h
    obtain ⟨q, e2⟩ := t.a i hi _ e
    exact ⟨r ++ q, by rw [e2, List.append_assoc]⟩
  · refine t.fr b o (s.fr b o h hn) fun z => ?_
    rcases s.na b z with z | z
    · exact hn z
    · rw [h] at z; cases z
  · rcases t.nf b o h with z | z
    · exact s.nf b o z
    · exact .inr (s.dm b z)
  · rcases t.na b h with z | z
    · exact s.na b z
    · exact .inr (s.dm b z)
theorem Stp.weak {n m : Nat} (s : Stp n F as H F' as' H') (h : m ≤ n) : Stp m F as H F' as' H' := ⟨s.f, fun i hi => s.a i (Nat.lt_of_lt_of_le hi h), s.fr, s.dm, s.nf, s.na⟩
theorem Stp.pre (s : Stp as.length F as H F' as' H') : Pre as as' := fun i own h => s.a i (List.getElem?_eq_some_iff.mp h).1 own h
theorem Pre.len (p : Pre as as') : as.length ≤ as'.length := by
  refine Nat.le_of_not_lt fun h => ?_
  obtain ⟨r, e⟩ := p as'.length as[as'.length] (List.getElem?_eq_getElem h)
  rw [List.getElem?_eq_none (Nat.le_refl _)] at e; cases e
theorem Stp.len {n : Nat} (s : Stp n F as H F' as' H') (h : n ≤ as.length) : n ≤ as'.length := by
  refine Nat.le_of_not_lt fun h2 => ?_
  have h3 : as'.length < as.length := Nat.lt_of_lt_of_le h2 h
  obtain ⟨r, e⟩ := s.a as'.length h2 as[as'.length] (List.getElem?_eq_getElem h3)
  rw [List.getElem?_eq_none (Nat.le_refl _)] at e; cases e
theorem Stp.tr {F'' : Hp} {as'' : Own} {H'' : Hp} (s : Stp as.length F as H F' as' H') (t : Stp as'.length F' as' H' F'' as'' H'') : Stp as.length F as H F'' as'' H'' := s.trans (t.weak s.pre.len)
/-! ### the environment -/
structure EnvR (K : PySem.W.Frag) (C : Addr) (F : Hp) (as : Own) (E : AEnv) (σ : St) : Prop where
  len : E.length = σ.length
  get : ∀ (i : Nat) x, E[i]? = some (some x) → ∃ v, σ[i]? = some (some v) ∧ AR K C F as x v
theorem EnvR.mono {E : AEnv} {σ : St} (e : EnvR K C F as E σ) (s : Same F F') (p : Pre as as') : EnvR K C F' as' E σ := ⟨e.len, fun i x h => by
  obtain ⟨v, h1, h2⟩ := e.get i x h
  exact ⟨v, h1, h2.mono s p⟩⟩
theorem EnvR.set {E : AEnv} {σ : St} {i : Nat} {x : AV} {v : V} (e : EnvR K C F as E σ) (h : AR K C F as x v) : EnvR K C F as (E.set i (some x)) (σ.set i (some v)) := by
  refine ⟨by rw [List.length_set, List.length_set, e.len], fun j y hj => ?_⟩
  rw [List.getElem?_set] at hj
  rw [List.getElem?_set]
  by_cases c : i = j
  · subst c
    rw [if_pos rfl] at hj ⊢
    by_cases c2 : i < E.length
    · rw [if_pos c2] at hj
      rw [if_pos (by rw [← e.len]; exact c2)]
      cases hj
      exact ⟨v, rfl, h⟩
    · rw [if_neg c2] at hj; cases hj
  · rw [if_neg c] at hj ⊢
    exact e.get j y hj
/-! ### judgements -/
def Ev (K : PySem.W.Frag) (C : Addr) (E : AEnv) (cs : List Cell) (te : TE) (k : AV → List Cell → Prop) : Prop :=
  ∀ (F : Hp) (as : Own) (H : Hp) (σ : St) (Q : VK), Wd K C F as cs H → EnvR K C F as E σ →
    (∀ x cs' v F' as' H', k x cs' → Stp as.length F as H F' as' H' → Wd K C F' as' cs' H' → AR K C F' as' x v → Q v H') → te σ H Q
def Evs (K : PySem.W.Frag) (C : Addr) (E : AEnv) (cs : List Cell) (ta : TA) (k : List AV → List Cell → Prop) : Prop :=
  ∀ (F : Hp) (as : Own) (H : Hp) (σ : St) (Q : List V → Hp → Prop), Wd K C F as cs H → EnvR K C F as E σ →
    (∀ x cs' v F' as' H', k x cs' → Stp as.length F as H F' as' H' → Wd K C F' as' cs' H' → ARs K C F' as' x v → Q v H') → ta σ H Q
def Evt (K : PySem.W.Frag) (C : Addr) (E : AEnv) (cs : List Cell) (tt : TT) (k : Bool → List Cell → Prop) : Prop :=
  ∀ (F : Hp) (as : Own) (H : Hp) (σ : St) (Q : Bool → Hp → Prop), Wd K C F as cs H → EnvR K C F as E σ →
    (∀ b cs' F' as' H', k b cs' → Stp as.length F as H F' as' H' → Wd K C F' as' cs' H' → Q b H') → tt σ H Q
/-- what an error holds: a field, or nothing -/
inductive XP where
  | fld (f : Str) (x : AV)
  | no
def XR (K : PySem.W.Frag) (C : Addr) (F : Hp) (as : Own) : XP → Option Addr → Prop
  | .fld f x, d => ∃ a v, d = some a ∧ F a = some (.xd [(f, v)]) ∧ AR K C F as x v
  | .no, d => d = none
theorem XR.mono {p : XP} {d : Option Addr} (s : Same F F') (q : Pre as as') (h : XR K C F as p d) : XR K C F' as' p d := by
  cases p with
  | no => exact h
  | fld f x =>
    obtain ⟨a, v, h1, h2, h3⟩ := h
    exact ⟨a, v, h1, s _ _ h2, h3.mono s q⟩
structure AEnds where
  nx : AEnv → List Cell → Prop
  rt : AV → List Cell → Prop
  bk : AEnv → List Cell → Prop := fun _ _ => False
  ct : AEnv → List Cell → Prop := fun _ _ => False
  W : WX := fun _ _ _ _ => True
  ex : Addr → XP → AEnv → List Cell → Prop := fun _ _ _ _ => False
structure EndsR (K : PySem.W.Frag) (C : Addr) (n : Nat) (F : Hp) (as : Own) (H : Hp) (D : AEnds) (Dc : Ends) : Prop where
  nx : ∀ E cs F' as' H' σ, D.nx E cs → Stp n F as H F' as' H' → Wd K C F' as' cs H' → EnvR K C F' as' E σ → Dc.nx σ H'
  rt : ∀ x cs F' as' H' v, D.rt x cs → Stp n F as H F' as' H' → Wd K C F' as' cs H' → AR K C F' as' x v → Dc.rt v H'
  bk : ∀ E cs F' as' H' σ, D.bk E cs → Stp n F as H F' as' H' → Wd K C F' as' cs H' → EnvR K C F' as' E σ → Dc.bk σ H'
  ct : ∀ E cs F' as' H' σ, D.ct E cs → Stp n F as H F' as' H' → Wd K C F' as' cs H' → EnvR K C F' as' E σ → Dc.ct σ H'
  ex : ∀ c p E cs F' as' H' σ d, D.ex c p E cs → Stp n F as H F' as' H' → Wd K C F' as' cs H' → EnvR K C F' as' E σ → XR K C F' as' p d → D.W (.ref c) d σ H'
theorem EndsR.later {n : Nat} {D : AEnds} {Dc : Ends} (e : EndsR K C n F as H D Dc) (s : Stp n F as H F' as' H') : EndsR K C n F' as' H' D Dc :=
  ⟨fun E cs _ _ _ _ h t => e.nx E cs _ _ _ _ h (s.trans t), fun x cs _ _ _ _ h t => e.rt x cs _ _ _ _ h (s.trans t), fun E cs _ _ _ _ h t => e.bk E cs _ _ _ _ h (s.trans t), fun E cs _ _ _ _ h t => e.ct E cs _ _ _ _ h (s.trans t), fun c p E cs _ _ _ _ d h t => e.ex c p E cs _ _ _ _ d h (s.trans t)⟩
def Ex (K : PySem.W.Frag) (C : Addr) (n : Nat) (E : AEnv) (cs : List Cell) (t : TS) (D : AEnds) : Prop :=
  ∀ (F : Hp) (as : Own) (H : Hp) (σ : St) (Dc : Ends), n ≤ cs.length → Wd K C F as cs H → EnvR K C F as E σ → EndsR K C n F as H D Dc → t Dc σ H
end
end Y

/-! # Pure states: the world's changes, and the rules -/
namespace Y
open PySem L2
section
variable {K : PySem.W.Frag} {C : Addr} {F F' H H' : Hp} {as as' : Own} {cs cs' : List Cell}
theorem GridOk.mono (s : Same F F') : ∀ {qs : List Addr} {rs : List (List PyData)}, (∀ b ∈ qs, ∀ o, H b = some o → H' b = some o) → GridOk K F H qs rs → GridOk K F' H' qs rs
  | [], _, _, h => by cases h; exact .nil
  | q :: qs, _, k, h => by cases h with | cons h1 h2 h3 => exact .cons (k q (by simp) _ h1) (s.dpAll h2) (GridOk.mono s (fun b hb => k b (List.mem_cons_of_mem q hb)) h3)
theorem GridOk.get : ∀ {qs : List Addr} {rs : List (List PyData)} {j : Nat} {q : Addr} {r : List PyData}, GridOk K F H qs rs → qs[j]? = some q → rs[j]? = some r → ∃ vs, H q = some (.lst vs) ∧ DpAll K F vs r
  | _, _, _, _, _, .nil, h, _ => by simp at h
  | _, _, 0, _, _, .cons h1 h2 _, h, g => by
    simp at h g; subst h; subst g
    exact ⟨_, h1, h2⟩
  | _, _, j + 1, _, _, .cons _ _ h3, h, g => GridOk.get (j := j) h3 (by simpa using h) (by simpa using g)
theorem GridOk.len : ∀ {qs : List Addr} {rs : List (List PyData)}, GridOk K F H qs rs → qs.length = rs.length
  | _, _, .nil => rfl
  | _, _, .cons _ _ h => by simp [GridOk.len h]
theorem CellOk.mono {own : List Addr} {c : Cell} (h : CellOk K C F as H own c) (s : Same F F') (p : Pre as as') (k : ∀ b ∈ own, ∀ o, H b = some o → H' b = some o) : CellOk K C F' as' H' own c := by
  cases h with
  | l h1 h2 => exact .l (k _ (by simp) _ h1) (s.dpAll h2)
  | a h1 h2 => exact .a (k _ (by simp) _ h1) (h2.mono s p)
  | k h0 h1 h2 h3 => exact .k h0 (k _ (by simp) _ h1) h2 (h3.mono s p)
  | g h1 h2 h3 => exact .g (k _ (by simp) _ h1) h2 (h3.mono s fun b hb => k b (List.mem_cons_of_mem _ hb))
  | m h1 h2 h3 => exact .m (k _ (by simp) _ h1) h2 (h3.mono s fun b hb => k b (List.mem_cons_of_mem _ hb))
  | x => exact .x
theorem Wd.newF (w : Wd K C F as cs H) {p : Addr} (hp : H p = none) (o : HO) : Wd K C (upd F p o) as cs (upd H p o) ∧ Stp as.length F as H (upd F p o) as (upd H p o) ∧ Same F (upd F p o) := by
  have hF : F p = none := w.fro.free hp
  have sF : Same F (upd F p o) := Same.new hF
  have sH : Same H (upd H p o) := Same.new hp
  have nb : ∀ {i own}, as[i]? = some own → ∀ b ∈ own, b ≠ p := fun hi b hb z => (w.dis _ _ hi b hb).2 (z ▸ hp)
  refine ⟨⟨fun b u h => ?_, fun i own hi b hb => ?_, w.sep, w.nd, w.len, fun i own c hi hc => (w.ok i own c hi hc).mono sF Pre.refl fun b _ o h => sH b o h, fun i own hi b hb u h => ?_, fun b u h n => ?_⟩, ⟨sF, fun i _ own h => ⟨[], by rw [List.append_nil]; exact h⟩, fun b u h _ => sH b u h, fun b h => (updN0 h).2, fun b u h => ?_, fun b h => .inl h⟩, sF⟩
  · by_cases e : b = p
    · subst e; rw [upd_same] at h ⊢; exact h
    · rw [upd_ne e] at h ⊢; exact w.fro b u h
  · have e := nb hi b hb
    rw [upd_ne e, upd_ne e]; exact w.dis i own hi b hb
  · rw [upd_ne (nb hi b hb)] at h; exact w.mu i own hi b hb u h
  · by_cases e : b = p
    · subst e; rw [upd_same] at h ⊢; exact h
    · rw [upd_ne e] at h ⊢; exact w.tp b u h n
  · by_cases e : b = p
    · subst e; exact .inr hp
    · rw [upd_ne e] at h; exact .inl h
where
  updN0 {H : Hp} {p x : Addr} {o : HO} (h : upd H p o x = none) : x ≠ p ∧ H x = none := by
    unfold upd at h
    split at h
    · cases h
    · exact ⟨by assumption, h⟩
theorem get_snoc {α : Type} {l : List α} {a x : α} {i : Nat} (h : (l ++ [a])[i]? = some x) : l[i]? = some x ∨ i = l.length ∧ x = a := by
  rcases Nat.lt_trichotomy i l.length with c | c | c
  · rw [List.getElem?_append_left c] at h; exact .inl h
  · subst c; rw [List.getElem?_append_right (Nat.le_refl _)] at h; simp at h; exact .inr ⟨rfl, h.symm⟩
  · rw [List.getElem?_eq_none (by simp; omega)] at h; cases h
theorem Wd.newC (w : Wd K C F as cs H) {p : Addr} {o : HO} {c : Cell} (hp : H p = none) (ho : NoTup o) (hc : CellOk K C F (as ++ [[p]]) (upd H p o) [p] c) :
    Wd K C F (as ++ [[p]]) (cs ++ [c]) (upd H p o) ∧ Stp as.length F as H F (as ++ [[p]]) (upd H p o) := by
  have hF : F p = none := w.fro.free hp
  have sH : Same H (upd H p o) := Same.new hp
  have nb : ∀ {i own}, as[i]? = some own → ∀ b ∈ own, b ≠ p := fun hi b hb z => (w.dis _ _ hi b hb).2 (z ▸ hp)
  refine ⟨⟨fun b u h => sH b u (w.fro b u h), fun i own hi b hb => ?_, fun i j own own' hi hj hij b hb => ?_, fun i own hi => ?_, by simp [w.len], fun i own c' hi hc' => ?_, fun i own hi b hb u h => ?_, fun b u h n => ?_⟩, ⟨Same.refl F, fun i hi own h => Pre.snoc i own h, fun b u h _ => sH b u h, fun b h => (Wd.newF.updN0 h).2, fun b u h => .inl h, fun b ⟨i, own, hi, hb⟩ => ?_⟩⟩
  · rcases get_snoc hi with hi | ⟨rfl, rfl⟩
    · rw [upd_ne (nb hi b hb)]; exact w.dis i own hi b hb
    · rw [List.mem_singleton.mp hb, upd_same]; exact ⟨hF, by simp⟩
  · rcases get_snoc hi with hi | ⟨rfl, rfl⟩ <;> rcases get_snoc hj with hj | ⟨rfl, rfl⟩
    · exact w.sep i j own own' hi hj hij b hb
    · intro z; exact nb hi b hb (List.mem_singleton.mp z)
    · rw [List.mem_singleton.mp hb]; intro z; exact nb hj p z rfl
    · exact absurd rfl hij
  · rcases get_snoc hi with hi | ⟨rfl, rfl⟩
    · exact w.nd i own hi
    · simp
  · rcases get_snoc hi with hi | ⟨rfl, rfl⟩
    · rw [List.getElem?_append_left (by rw [← w.len]; exact (List.getElem?_eq_some_iff.mp hi).1)] at hc'
      exact (w.ok i own c' hi hc').mono (Same.refl F) Pre.snoc fun b _ o h => sH b o h
    · rw [w.len] at hc'
      rcases get_snoc hc' with z | ⟨_, rfl⟩
      · rw [List.getElem?_eq_none (Nat.le_refl _)] at z; cases z
      · exact hc
  · rcases get_snoc hi with hi | ⟨rfl, rfl⟩
    · rw [upd_ne (nb hi b hb)] at h; exact w.mu i own hi b hb u h
    · rw [List.mem_singleton.mp hb, upd_same] at h; cases h; exact ho
  · by_cases e : b = p
    · subst e; rw [upd_same] at h; cases h; exact absurd ho n
    · rw [upd_ne e] at h; exact w.tp b u h n
  · rcases get_snoc hi with hi | ⟨rfl, rfl⟩
    · exact .inl ⟨i, own, hi, hb⟩
    · rw [List.mem_singleton.mp hb]; exact .inr hp
theorem Wd.put (w : Wd K C F as cs H) {i : Nat} {own : List Addr} {p : Addr} {o : HO} {c : Cell} (hi : as[i]? = some own) (hp : p ∈ own) (ho : NoTup o) (hc : CellOk K C F as (upd H p o) own c) :
    Wd K C F as (cs.set i c) (upd H p o) ∧ Stp as.length F as H F as (upd H p o) := by
  have d := w.dis i own hi p hp
  have ne : ∀ b u, F b = some u → b ≠ p := fun b u h z => by rw [z, d.1] at h; cases h
  have nn : ∀ {b}, upd H p o b = none → H b = none := fun h => (Wd.newF.updN0 h).2
  refine ⟨⟨fun b u h => by rw [upd_ne (ne b u h)]; exact w.fro b u h, fun j own' hj b hb => ?_, w.sep, w.nd, by rw [List.length_set]; exact w.len, fun j own' c' hj hc' => ?_, fun j own' hj b hb u h => ?_, fun b u h n => ?_⟩, ⟨Same.refl F, fun j _ own h => ⟨[], by rw [List.append_nil]; exact h⟩, fun b u h n => ?_, fun b h => nn h, fun b u h => .inl h, fun b h => .inl h⟩⟩
  · exact ⟨(w.dis j own' hj b hb).1, fun z => (w.dis j own' hj b hb).2 (nn z)⟩
  · rw [List.getElem?_set] at hc'
    by_cases e : i = j
    · subst e
      rw [if_pos rfl] at hc'
      rw [hi] at hj; cases hj
      split at hc'
      · cases hc'; exact hc
      · cases hc'
    · rw [if_neg e] at hc'
      refine (w.ok j own' c' hj hc').mono (Same.refl F) Pre.refl fun b hb u h => ?_
      have nz : b ≠ p := fun z => w.sep i j own own' hi hj e p hp (by rw [← z]; exact hb)
      rw [upd_ne nz]; exact h
  · by_cases e : b = p
    · subst e; rw [upd_same] at h; cases h; exact ho
    · rw [upd_ne e] at h; exact w.mu j own' hj b hb u h
  · by_cases e : b = p
    · subst e; rw [upd_same] at h; cases h; exact absurd ho n
    · rw [upd_ne e] at h; exact w.tp b u h n
  · have nz : b ≠ p := fun z => n ⟨i, own, hi, by rw [z]; exact hp⟩
    rw [upd_ne nz]; exact h
mutual
theorem Wd.imm (w : Wd K C F as cs H) : ∀ {d : PyData} {v : V}, imm d = true → Dp K H v d → Dp K F v d
  | .none, _, _, h => by cases h; exact .non
  | .bool b, _, _, h => by cases h; exact .bl b
  | .int i, _, _, h => by cases h; exact .int i
  | .str s, _, _, h => by cases h; exact .str s
  | .list ds, _, i, _ => by simp [L2.imm] at i
  | .dict ds, _, i, _ => by simp [L2.imm] at i
  | .tuple ds, _, i, h => by
    cases h with
    | tup h1 h2 =>
      refine .tup ?_ (Wd.immAll w (by simpa [L2.imm] using i) h2)
      rcases h1 with (h1 | ⟨o, h1⟩) | h1
      · exact .inl (.inl (w.tp _ _ h1 fun z => z))
      · exact .inl (.inr ⟨o, w.tp _ _ h1 fun z => z⟩)
      · exact .inr h1
theorem Wd.immAll (w : Wd K C F as cs H) : ∀ {ds : List PyData} {vs : List V}, immAll ds = true → DpAll K H vs ds → DpAll K F vs ds
  | [], _, _, h => by cases h; exact .nil
  | d :: ds, _, i, h => by
    simp only [L2.immAll, Bool.and_eq_true] at i
    cases h with
    | cons h1 h2 => exact .cons (Wd.imm w i.1 h1) (Wd.immAll w i.2 h2)
end
/-- what is new is frozen -/
def absF (F H H' : Hp) : Hp := fun b => match H b with
  | none => H' b
  | some _ => F b
theorem absF_new {b : Addr} (h : H b = none) : absF F H H' b = H' b := by unfold absF; rw [h]
theorem absF_old {b : Addr} {o : HO} (h : H b = some o) : absF F H H' b = F b := by unfold absF; rw [h]
theorem absF_same (s : Same F H) : Same F (absF F H H') := fun b o h => by rw [absF_old (s b o h)]; exact h
theorem Wd.absorb (w : Wd K C F as cs H) (k : ∀ b o, H b = some o → ¬ inA as b → H' b = some o) (dm : ∀ b, H' b = none → H b = none) (hl : cs'.length = cs.length)
    (hc : ∀ (i : Nat) own c, as[i]? = some own → cs'[i]? = some c → CellOk K C (absF F H H') as H' own c) (hm : ∀ (i : Nat) own, as[i]? = some own → ∀ b ∈ own, ∀ o, H' b = some o → NoTup o) :
    Wd K C (absF F H H') as cs' H' ∧ Stp as.length F as H (absF F H H') as H' := by
  have nF : ∀ b o, F b = some o → ¬ inA as b := fun b o h ⟨i, own, hi, hb⟩ => by rw [(w.dis i own hi b hb).1] at h; cases h
  refine ⟨⟨fun b o h => ?_, fun i own hi b hb => ?_, w.sep, w.nd, by rw [hl]; exact w.len, hc, hm, fun b o h n => ?_⟩, ⟨absF_same w.fro, fun i _ own h => ⟨[], by rw [List.append_nil]; exact h⟩, k, dm, fun b o h => ?_, fun b h => .inl h⟩⟩
  · cases e : H b with
    | none => rw [absF_new e] at h; exact h
    | some u => rw [absF_old e] at h; exact k b o (w.fro b o h) (nF b o h)
  · have d := w.dis i own hi b hb
    refine ⟨?_, fun z => d.2 (dm b z)⟩
    cases e : H b with
    | none => exact absurd e d.2
    | some u => rw [absF_old e]; exact d.1
  · cases e : H b with
    | none => rw [absF_new e]; exact h
    | some u =>
      rw [absF_old e]
      by_cases z : inA as b
      · obtain ⟨i, own, hi, hb⟩ := z
        exact absurd (hm i own hi b hb o h) n
      · have := k b u e z
        rw [h] at this; cases this
        exact w.tp b o e n
  · cases e : H b with
    | none => exact .inr rfl
    | some u => rw [absF_old e] at h; exact .inl h
theorem Wd.same (w : Wd K C F as cs H) (s : Same H H') : Wd K C (absF F H H') as cs H' ∧ Stp as.length F as H (absF F H H') as H' :=
  w.absorb (fun b o h _ => s b o h) (fun b h => s.free h) rfl (fun i own c hi hc => (w.ok i own c hi hc).mono (absF_same w.fro) Pre.refl fun b _ o h => s b o h) fun i own hi b hb o h => by
    cases e : H b with
    | none => exact absurd e (w.dis i own hi b hb).2
    | some u =>
      have := s b u e
      rw [h] at this; cases this
      exact w.mu i own hi b hb o e
theorem get_take {α : Type} {l : List α} {n i : Nat} {x : α} (h : (l.take n)[i]? = some x) : l[i]? = some x ∧ i < n := by
  rw [List.getElem?_take] at h
  split at h
  · exact ⟨h, by assumption⟩
  · cases h
mutual
def AV.lt (n : Nat) : AV → Bool
  | .d _ => true
  | .tup xs => AV.ltAll n xs
  | .cel i => decide (i < n)
  | .sub i _ => decide (i < n)
  | .scr _ => true
  | .ty _ => true
  | .dct => true
  | .raw _ => true
  | .exn _ _ _ x => AV.lt n x
def AV.ltAll (n : Nat) : List AV → Bool
  | [] => true
  | x :: xs => AV.lt n x && AV.ltAll n xs
end
def Cell.lt (n : Nat) : Cell → Bool
  | .a xs => AV.ltAll n xs
  | .k _ kvs => AV.ltAll n (kvs.map Prod.snd)
  | _ => true
mutual
theorem AR.cut {n : Nat} : ∀ {x : AV} {v : V}, AV.lt n x = true → AR K C F as x v → AR K C F (as.take n) x v
  | .d _, _, _, h => by cases h with | d h => exact .d h
  | .tup xs, _, l, h => by cases h with | tup h1 h2 => exact .tup h1 (ARs.cut (by simpa only [AV.lt] using l) h2)
  | .cel i, _, l, h => by
    cases h with | cel h =>
    simp only [AV.lt, decide_eq_true_eq] at l
    exact .cel (by rw [List.getElem?_take, if_pos l]; exact h)
  | .sub i j, _, l, h => by
    cases h with | sub h1 h2 =>
    simp only [AV.lt, decide_eq_true_eq] at l
    exact .sub (by rw [List.getElem?_take, if_pos l]; exact h1) h2
  | .scr _, _, _, h => by cases h with | scr h => exact .scr h
  | .ty _, _, _, h => by cases h; exact .ty
  | .dct, _, _, h => by cases h with | dct h => exact .dct h
  | .raw _, _, _, h => by cases h; exact .raw
  | .exn _ _ _ _, _, l, h => by cases h with | exn h1 h2 => exact .exn h1 (AR.cut (by simpa only [AV.lt] using l) h2)
theorem ARs.cut {n : Nat} : ∀ {xs : List AV} {vs : List V}, AV.ltAll n xs = true → ARs K C F as xs vs → ARs K C F (as.take n) xs vs
  | [], _, _, h => by cases h; exact .nil
  | x :: xs, _, l, h => by
    simp only [AV.ltAll, Bool.and_eq_true] at l
    cases h with | cons h1 h2 => exact .cons (AR.cut l.1 h1) (ARs.cut l.2 h2)
end
theorem CellOk.cut {n : Nat} {own : List Addr} {c : Cell} (h : CellOk K C F as H own c) (l : Cell.lt n c = true) : CellOk K C F (as.take n) H own c := by
  cases h with
  | l h1 h2 => exact .l h1 h2
  | a h1 h2 => exact .a h1 (h2.cut l)
  | k h0 h1 h2 h3 => exact .k h0 h1 h2 (h3.cut l)
  | g h1 h2 h3 => exact .g h1 h2 h3
  | m h1 h2 h3 => exact .m h1 h2 h3
  | x => exact .x
theorem Wd.cut (w : Wd K C F as cs H) {n : Nat} (hl : ∀ c ∈ cs.take n, Cell.lt n c = true) : Wd K C F (as.take n) (cs.take n) H :=
  ⟨w.fro, fun i own hi => w.dis i own (get_take hi).1, fun i j own own' hi hj => w.sep i j own own' (get_take hi).1 (get_take hj).1, fun i own hi => w.nd i own (get_take hi).1, by rw [List.length_take, List.length_take, w.len],
    fun i own c hi hc => (w.ok i own c (get_take hi).1 (get_take hc).1).cut (hl c (List.mem_of_getElem? hc)), fun i own hi => w.mu i own (get_take hi).1, w.tp⟩
theorem Stp.cut {n m : Nat} (s : Stp n F as H F' as' H') (h : n ≤ m) : Stp n F as H F' (as'.take m) H' := ⟨s.f, fun i hi own ho => by
  obtain ⟨r, e⟩ := s.a i hi own ho
  exact ⟨r, by rw [List.getElem?_take, if_pos (by omega)]; exact e⟩, s.fr, s.dm, s.nf, fun b ⟨i, own, hi, hb⟩ => s.na b ⟨i, own, (get_take hi).1, hb⟩⟩
end
end Y

/-! # Pure states: rules for expressions and statements -/
namespace Y
open PySem L2
section
variable {K : PySem.W.Frag} {C : Addr} {F F' H H' : Hp} {as as' : Own} {cs cs' cs1 : List Cell} {E : AEnv} {k : AV → List Cell → Prop} {ta tb te tc : TE} {tas tar : TA}
def Kt (K : PySem.W.Frag) (C : Addr) (F : Hp) (as : Own) (H : Hp) (k : AV → List Cell → Prop) (Q : VK) : Prop :=
  ∀ z cs' w F' as' H', k z cs' → Stp as.length F as H F' as' H' → Wd K C F' as' cs' H' → AR K C F' as' z w → Q w H'
theorem Kt.now {Q : VK} (q : Kt K C F as H k Q) {z : AV} {w : V} (h : k z cs) (W : Wd K C F as cs H) (r : AR K C F as z w) : Q w H := q z cs w F as H h Stp.refl W r
theorem Kt.later {Q : VK} (q : Kt K C F as H k Q) (s : Stp as.length F as H F' as' H') : Kt K C F' as' H' k Q := fun z cs' w _ _ _ h t => q z cs' w _ _ _ h (s.tr t)
def O2 (K : PySem.W.Frag) (C : Addr) (r : R2) (x y : AV) (cs : List Cell) (k : AV → List Cell → Prop) : Prop :=
  ∀ (F : Hp) (as : Own) (H : Hp) (v u : V) (Q : VK), Wd K C F as cs H → AR K C F as x v → AR K C F as y u → Kt K C F as H k Q → r v u H Q
def O1 (K : PySem.W.Frag) (C : Addr) (r : V → Hp → VK → Prop) (x : AV) (cs : List Cell) (k : AV → List Cell → Prop) : Prop :=
  ∀ (F : Hp) (as : Own) (H : Hp) (v : V) (Q : VK), Wd K C F as cs H → AR K C F as x v → Kt K C F as H k Q → r v H Q
def On (K : PySem.W.Frag) (C : Addr) (r : List V → Hp → VK → Prop) (xs : List AV) (cs : List Cell) (k : AV → List Cell → Prop) : Prop :=
  ∀ (F : Hp) (as : Own) (H : Hp) (vs : List V) (Q : VK), Wd K C F as cs H → ARs K C F as xs vs → Kt K C F as H k Q → r vs H Q
def Om (K : PySem.W.Frag) (C : Addr) (r : V → List V → Hp → VK → Prop) (x : AV) (xs : List AV) (cs : List Cell) (k : AV → List Cell → Prop) : Prop :=
  ∀ (F : Hp) (as : Own) (H : Hp) (v : V) (vs : List V) (Q : VK), Wd K C F as cs H → AR K C F as x v → ARs K C F as xs vs → Kt K C F as H k Q → r v vs H Q
def IsB (x : AV) (f : Bool → Prop) : Prop := ∃ b, x = .d (.bool b) ∧ f b
theorem isB {b : Bool} {f : Bool → Prop} (h : f b) : IsB (.d (.bool b)) f := ⟨b, rfl, h⟩
def IsI (x : AV) (f : Int → Prop) : Prop := ∃ b, x = .d (.int b) ∧ f b
theorem isI {b : Int} {f : Int → Prop} (h : f b) : IsI (.d (.int b)) f := ⟨b, rfl, h⟩
def IsI1 (xs : List AV) (f : Int → Prop) : Prop := ∃ b, xs = [.d (.int b)] ∧ f b
theorem isI1 {b : Int} {f : Int → Prop} (h : f b) : IsI1 [.d (.int b)] f := ⟨b, rfl, h⟩
def IsI2 (xs : List AV) (f : Int → Int → Prop) : Prop := ∃ a b, xs = [.d (.int a), .d (.int b)] ∧ f a b
theorem isI2 {a b : Int} {f : Int → Int → Prop} (h : f a b) : IsI2 [.d (.int a), .d (.int b)] f := ⟨a, b, rfl, h⟩
def IsT (x : AV) (f : List PyData → Prop) : Prop := ∃ b, x = .d (.tuple b) ∧ f b
theorem isT {b : List PyData} {f : List PyData → Prop} (h : f b) : IsT (.d (.tuple b)) f := ⟨b, rfl, h⟩
def IsL (x : AV) (f : List PyData → Prop) : Prop := ∃ b, x = .d (.list b) ∧ f b
theorem isL {b : List PyData} {f : List PyData → Prop} (h : f b) : IsL (.d (.list b)) f := ⟨b, rfl, h⟩
def Is2 (xs : List AV) (f : AV → AV → Prop) : Prop := ∃ x y, xs = [x, y] ∧ f x y
theorem is2 {x y : AV} {f : AV → AV → Prop} (h : f x y) : Is2 [x, y] f := ⟨x, y, rfl, h⟩
def Is3 (xs : List AV) (f : AV → AV → AV → Prop) : Prop := ∃ x y z, xs = [x, y, z] ∧ f x y z
theorem is3 {x y z : AV} {f : AV → AV → AV → Prop} (h : f x y z) : Is3 [x, y, z] f := ⟨x, y, z, rfl, h⟩
def IsScr (x : AV) (f : List PyData → Prop) : Prop := ∃ b, x = .scr b ∧ f b
theorem isScr {b : List PyData} {f : List PyData → Prop} (h : f b) : IsScr (.scr b) f := ⟨b, rfl, h⟩
/-! ### expressions -/
theorem ev_var {i : Nat} {x : AV} (h : E[i]? = some (some x)) (q : k x cs) : Ev K C E cs (tVar i) k := fun F as H σ Q w e z => by
  obtain ⟨v, h1, h2⟩ := e.get i x h
  exact ⟨v, h1, z x cs v F as H q Stp.refl w h2⟩
theorem ev_c {v : V} {d : PyData} (h : ∀ F, Dp K F v d) (q : k (.d d) cs) : Ev K C E cs (tC v) k := fun F as H σ Q w e z => z _ cs v F as H q Stp.refl w (.d (h F))
theorem ev_int {i : Int} (q : k (.d (.int i)) cs) : Ev K C E cs (tC (.int i)) k := ev_c (fun _ => .int i) q
theorem ev_str {i : Str} (q : k (.d (.str i)) cs) : Ev K C E cs (tC (.str i)) k := ev_c (fun _ => .str i) q
theorem ev_bl {i : Bool} (q : k (.d (.bool i)) cs) : Ev K C E cs (tC (.bl i)) k := ev_c (fun _ => .bl i) q
theorem ev_non (q : k (.d .none) cs) : Ev K C E cs (tC .non) k := ev_c (fun _ => .non) q
theorem ev_ty {i : String} (q : k (.ty i) cs) : Ev K C E cs (tC (.ty i)) k := fun F as H σ Q w e z => z _ cs _ F as H q Stp.refl w .ty
theorem ev_op {r : R2} (h : Ev K C E cs ta fun x cs1 => Ev K C E cs1 tb fun y cs2 => O2 K C r x y cs2 k) : Ev K C E cs (tOp r ta tb) k := fun F as H σ Q w e z => by
  refine h F as H σ _ w e fun x cs1 v F1 as1 H1 h1 s1 w1 r1 => ?_
  refine h1 F1 as1 H1 σ _ w1 (e.mono s1.f s1.pre) fun y cs2 u F2 as2 H2 h2 s2 w2 r2 => ?_
  exact h2 F2 as2 H2 v u Q w2 (r1.mono s2.f s2.pre) r2 fun a b c _ _ _ g t => z a b c _ _ _ g ((s1.tr s2).tr t)
theorem ev_un {r : V → Hp → VK → Prop} (h : Ev K C E cs ta fun x cs1 => O1 K C r x cs1 k) : Ev K C E cs (tUn r ta) k := fun F as H σ Q w e z => by
  refine h F as H σ _ w e fun x cs1 v F1 as1 H1 h1 s1 w1 r1 => ?_
  exact h1 F1 as1 H1 v Q w1 r1 fun a b c _ _ _ g t => z a b c _ _ _ g (s1.tr t)
theorem evs_nil {k : List AV → List Cell → Prop} (q : k [] cs) : Evs K C E cs tNil k := fun F as H σ Q w e z => z [] cs [] F as H q Stp.refl w .nil
theorem evs_cons {k : List AV → List Cell → Prop} (h : Ev K C E cs ta fun x cs1 => Evs K C E cs1 tar fun xs cs2 => k (x :: xs) cs2) : Evs K C E cs (tCons ta tar) k := fun F as H σ Q w e z => by
  refine h F as H σ _ w e fun x cs1 v F1 as1 H1 h1 s1 w1 r1 => ?_
  refine h1 F1 as1 H1 σ _ w1 (e.mono s1.f s1.pre) fun y cs2 u F2 as2 H2 h2 s2 w2 r2 => ?_
  exact z _ cs2 _ F2 as2 H2 h2 (s1.tr s2) w2 (.cons (r1.mono s2.f s2.pre) r2)
def unD : List AV → Option (List PyData)
  | [] => some []
  | .d x :: xs => match unD xs with
    | some ds => some (x :: ds)
    | none => none
  | _ :: _ => none
def IsDs (xs : List AV) (f : List PyData → Prop) : Prop := ∃ ds, unD xs = some ds ∧ ds.length ≤ 100000 ∧ f ds
theorem isDs {xs : List AV} {ds : List PyData} {f : List PyData → Prop} (h : unD xs = some ds) (hl : Nat.ble ds.length 100000 = true) (q : f ds) : IsDs xs f := ⟨ds, h, Nat.le_of_ble_eq_true hl, q⟩
theorem unD_eq : ∀ {xs : List AV} {ds : List PyData}, unD xs = some ds → xs = ds.map AV.d
  | [], ds, h => by simp [unD] at h; subst h; rfl
  | .d x :: xs, ds, h => by
    simp only [unD] at h
    cases e : unD xs with
    | none => rw [e] at h; cases h
    | some es => rw [e] at h; cases h; rw [unD_eq e]; rfl
  | .tup _ :: _, _, h => by simp [unD] at h
  | .cel _ :: _, _, h => by simp [unD] at h
  | .sub _ _ :: _, _, h => by simp [unD] at h
  | .scr _ :: _, _, h => by simp [unD] at h
  | .ty _ :: _, _, h => by simp [unD] at h
  | .dct :: _, _, h => by simp [unD] at h
  | .raw _ :: _, _, h => by simp [unD] at h
  | .exn _ _ _ _ :: _, _, h => by simp [unD] at h
theorem Kt.frz {Q : VK} (q : Kt K C F as H k Q) (w : Wd K C F as cs H) {z : AV} {p : Addr} {o : HO} (hp : H p = none) (h : k z cs) (r : AR K C (upd F p o) as z (.ref p)) : Q (.ref p) (upd H p o) := by
  obtain ⟨w1, s1, _⟩ := w.newF hp o
  exact q z cs _ _ _ _ h s1 w1 r
theorem Kt.cell {Q : VK} (q : Kt K C F as H k Q) (w : Wd K C F as cs H) {p : Addr} {o : HO} {c : Cell} (hp : H p = none) (ho : NoTup o) (hc : CellOk K C F (as ++ [[p]]) (upd H p o) [p] c) (h : k (.cel cs.length) (cs ++ [c])) : Q (.ref p) (upd H p o) := by
  obtain ⟨w1, s1⟩ := w.newC hp ho hc
  refine q _ _ _ _ _ _ h s1 w1 (.cel (r := []) ?_)
  rw [← w.len, List.getElem?_append_right (Nat.le_refl _)]; simp
theorem ev_tupD (h : Evs K C E cs tas fun xs cs1 => IsDs xs fun ds => k (.d (.tuple ds)) cs1) : Ev K C E cs (tTup tas) k := fun F as H σ Q w e z => by
  refine h F as H σ _ w e fun xs cs1 vs F1 as1 H1 ⟨ds, h0, hl, h1⟩ s1 w1 r1 => ?_
  have r2 := ARs.toData ((unD_eq h0) ▸ r1)
  refine ⟨line_of (by rw [← r1.length, unD_eq h0, List.length_map]; exact hl), fun p hp => ?_⟩
  have hF : F1 p = none := w1.fro.free hp
  exact Kt.frz (Kt.later z s1) w1 hp h1 (.d (.tupOf upd_same ((Same.new hF).dpAll r2)))
theorem ev_tup (h : Evs K C E cs tas fun xs cs1 => xs.length ≤ 100000 ∧ k (.tup xs) cs1) : Ev K C E cs (tTup tas) k := fun F as H σ Q w e z => by
  refine h F as H σ _ w e fun xs cs1 vs F1 as1 H1 ⟨hl, h1⟩ s1 w1 r1 => ?_
  refine ⟨line_of (by rw [← r1.length]; exact hl), fun p hp => ?_⟩
  have hF : F1 p = none := w1.fro.free hp
  exact Kt.frz (Kt.later z s1) w1 hp h1 (.tup (SqT.of upd_same) (r1.mono (Same.new hF) Pre.refl))
theorem ev_lstD (h : Evs K C E cs tas fun xs cs1 => IsDs xs fun ds => k (.cel cs1.length) (cs1 ++ [.l ds])) : Ev K C E cs (tLst tas) k := fun F as H σ Q w e z => by
  refine h F as H σ _ w e fun xs cs1 vs F1 as1 H1 ⟨ds, h0, hl, h1⟩ s1 w1 r1 => ?_
  have r2 := ARs.toData ((unD_eq h0) ▸ r1)
  refine ⟨line_of (by rw [← r1.length, unD_eq h0, List.length_map]; exact hl), fun p hp => ?_⟩
  exact Kt.cell (Kt.later z s1) w1 hp trivial (.l upd_same r2) h1
theorem ev_lst (h : Evs K C E cs tas fun xs cs1 => xs.length ≤ 100000 ∧ k (.cel cs1.length) (cs1 ++ [.a xs])) : Ev K C E cs (tLst tas) k := fun F as H σ Q w e z => by
  refine h F as H σ _ w e fun xs cs1 vs F1 as1 H1 ⟨hl, h1⟩ s1 w1 r1 => ?_
  refine ⟨line_of (by rw [← r1.length]; exact hl), fun p hp => ?_⟩
  exact Kt.cell (Kt.later z s1) w1 hp trivial (.a upd_same (r1.mono (Same.refl _) Pre.snoc)) h1
/-- a list literal that is only read: frozen -/
theorem ev_lstF (h : Evs K C E cs tas fun xs cs1 => IsDs xs fun ds => k (.d (.list ds)) cs1) : Ev K C E cs (tLst tas) k := fun F as H σ Q w e z => by
  refine h F as H σ _ w e fun xs cs1 vs F1 as1 H1 ⟨ds, h0, hl, h1⟩ s1 w1 r1 => ?_
  have r2 := ARs.toData ((unD_eq h0) ▸ r1)
  refine ⟨line_of (by rw [← r1.length, unD_eq h0, List.length_map]; exact hl), fun p hp => ?_⟩
  have hF : F1 p = none := w1.fro.free hp
  exact Kt.frz (Kt.later z s1) w1 hp h1 (.d (.lstOf upd_same ((Same.new hF).dpAll r2)))
theorem ev_if {tt : TT} (h : Evt K C E cs tt fun b cs1 => if b = true then Ev K C E cs1 ta k else Ev K C E cs1 tb k) : Ev K C E cs (tIf tt ta tb) k := fun F as H σ Q w e z => by
  refine h F as H σ _ w e fun b cs1 F1 as1 H1 h1 s1 w1 => ?_
  cases b with
  | true => exact h1 F1 as1 H1 σ Q w1 (e.mono s1.f s1.pre) (Kt.later z s1)
  | false => exact h1 F1 as1 H1 σ Q w1 (e.mono s1.f s1.pre) (Kt.later z s1)
theorem ev_andV (h : Ev K C E cs ta fun x cs1 => IsB x fun b => if b = true then Ev K C E cs1 tb k else k (.d (.bool false)) cs1) : Ev K C E cs (tAndV ta tb) k := fun F as H σ Q w e z => by
  refine h F as H σ _ w e fun x cs1 v F1 as1 H1 ⟨b, hx, h1⟩ s1 w1 r1 => ?_
  subst hx
  cases r1 with | d r1 =>
  refine ⟨b, r1.bl_inv, ?_⟩
  cases b with
  | true => exact h1 F1 as1 H1 σ Q w1 (e.mono s1.f s1.pre) (Kt.later z s1)
  | false => exact z _ cs1 _ F1 as1 H1 h1 s1 w1 (.d (.bl false))
theorem ev_orV (h : Ev K C E cs ta fun x cs1 => IsB x fun b => if b = true then k (.d (.bool true)) cs1 else Ev K C E cs1 tb k) : Ev K C E cs (tOrV ta tb) k := fun F as H σ Q w e z => by
  refine h F as H σ _ w e fun x cs1 v F1 as1 H1 ⟨b, hx, h1⟩ s1 w1 r1 => ?_
  subst hx
  cases r1 with | d r1 =>
  refine ⟨b, r1.bl_inv, ?_⟩
  cases b with
  | true => exact z _ cs1 _ F1 as1 H1 h1 s1 w1 (.d (.bl true))
  | false => exact h1 F1 as1 H1 σ Q w1 (e.mono s1.f s1.pre) (Kt.later z s1)
theorem ev_notV (h : Ev K C E cs ta fun x cs1 => IsB x fun b => k (.d (.bool (!b))) cs1) : Ev K C E cs (tNotV ta) k := fun F as H σ Q w e z => by
  refine h F as H σ _ w e fun x cs1 v F1 as1 H1 ⟨b, hx, h1⟩ s1 w1 r1 => ?_
  subst hx
  cases r1 with | d r1 =>
  exact ⟨b, r1.bl_inv, z _ cs1 _ F1 as1 H1 h1 s1 w1 (.d (.bl (!b)))⟩
theorem ev_cb {r : List V → Hp → VK → Prop} (h : Evs K C E cs tas fun xs cs1 => On K C r xs cs1 k) : Ev K C E cs (tCB r tas) k := fun F as H σ Q w e z => by
  refine h F as H σ _ w e fun xs cs1 vs F1 as1 H1 h1 s1 w1 r1 => ?_
  exact h1 F1 as1 H1 vs Q w1 r1 (Kt.later z s1)
/-- the receiver's type -/
def TyA (K : PySem.W.Frag) (C : Addr) (T : String) (x : AV) (cs : List Cell) : Prop := ∀ F as H v, Wd K C F as cs H → AR K C F as x v → tyV K T v H
theorem ev_bm {T : String} {r : V → List V → Hp → VK → Prop} (h : Ev K C E cs ta fun x cs1 => TyA K C T x cs1 ∧ Evs K C E cs1 tas fun xs cs2 => Om K C r x xs cs2 k) : Ev K C E cs (tBM K T r ta tas) k := fun F as H σ Q w e z => by
  refine h F as H σ _ w e fun x cs1 v F1 as1 H1 ⟨ht, h1⟩ s1 w1 r1 => ⟨ht F1 as1 H1 v w1 r1, ?_⟩
  refine h1 F1 as1 H1 σ _ w1 (e.mono s1.f s1.pre) fun xs cs2 vs F2 as2 H2 h2 s2 w2 r2 => ?_
  exact h2 F2 as2 H2 v vs Q w2 (r1.mono s2.f s2.pre) r2 (Kt.later z (s1.tr s2))
theorem ev_bm0 {T : String} {r : V → List V → Hp → VK → Prop} (h : Ev K C E cs ta fun x cs1 => TyA K C T x cs1 ∧ Om K C r x [] cs1 k) : Ev K C E cs (tBM0 K T r ta) k := fun F as H σ Q w e z => by
  refine h F as H σ _ w e fun x cs1 v F1 as1 H1 ⟨ht, h1⟩ s1 w1 r1 => ⟨ht F1 as1 H1 v w1 r1, ?_⟩
  exact h1 F1 as1 H1 v [] Q w1 r1 .nil (Kt.later z s1)
/-! ### tests -/
section
variable {kb : Bool → List Cell → Prop} {t u : TT}
theorem et_test (h : Ev K C E cs te fun x cs1 => IsB x fun b => kb b cs1) : Evt K C E cs (tTest te) kb := fun F as H σ Q w e z => by
  refine h F as H σ _ w e fun x cs1 v F1 as1 H1 ⟨b, hx, h1⟩ s1 w1 r1 => ?_
  subst hx
  cases r1 with | d r1 => exact ⟨b, r1.bl_inv, z b cs1 F1 as1 H1 h1 s1 w1⟩
theorem et_B (h : Ev K C E cs te fun x cs1 => IsB x fun b => kb b cs1) : Evt K C E cs (tB te) kb := et_test h
theorem et_and (h : Evt K C E cs t fun b cs1 => if b = true then Evt K C E cs1 u kb else kb false cs1) : Evt K C E cs (tAnd t u) kb := fun F as H σ Q w e z => by
  refine h F as H σ _ w e fun b cs1 F1 as1 H1 h1 s1 w1 => ?_
  cases b with
  | true => exact h1 F1 as1 H1 σ Q w1 (e.mono s1.f s1.pre) fun b cs2 _ _ _ g t => z b cs2 _ _ _ g (s1.tr t)
  | false => exact z false cs1 F1 as1 H1 h1 s1 w1
theorem et_or (h : Evt K C E cs t fun b cs1 => if b = true then kb true cs1 else Evt K C E cs1 u kb) : Evt K C E cs (tOr t u) kb := fun F as H σ Q w e z => by
  refine h F as H σ _ w e fun b cs1 F1 as1 H1 h1 s1 w1 => ?_
  cases b with
  | false => exact h1 F1 as1 H1 σ Q w1 (e.mono s1.f s1.pre) fun b cs2 _ _ _ g t => z b cs2 _ _ _ g (s1.tr t)
  | true => exact z true cs1 F1 as1 H1 h1 s1 w1
theorem et_not (h : Evt K C E cs t fun b cs1 => kb (!b) cs1) : Evt K C E cs (tNot t) kb := fun F as H σ Q w e z => by
  refine h F as H σ _ w e fun b cs1 F1 as1 H1 h1 s1 w1 => ?_
  exact z (!b) cs1 F1 as1 H1 h1 s1 w1
theorem et_yes (h : kb true cs) : Evt K C E cs tYes kb := fun F as H σ Q w e z => z true cs F as H h Stp.refl w
end
/-! ### statements -/
section
variable {n : Nat} {D : AEnds} {t u : TS}
theorem ex_seq (h : Ex K C n E cs t { D with nx := fun E' cs' => Ex K C n E' cs' u D }) : Ex K C n E cs (tSeq t u) D := fun F as H σ Dc hn w e d => by
  refine h F as H σ _ hn w e ⟨fun E' cs' F' as' H' σ' g s w' e' => ?_, d.rt, d.bk, d.ct, d.ex⟩
  exact g F' as' H' σ' Dc (by rw [← w'.len]; exact s.len (by rw [w.len]; exact hn)) w' e' (d.later s)
theorem ex_asg {g : TG} (h : Ev K C E cs te fun x cs1 => ∀ F as H σ v (Q : St → Hp → Prop), n ≤ cs1.length → Wd K C F as cs1 H → EnvR K C F as E σ → AR K C F as x v → (∀ E' cs' F' as' H' σ', D.nx E' cs' → Stp n F as H F' as' H' → Wd K C F' as' cs' H' → EnvR K C F' as' E' σ' → Q σ' H') → g v σ H Q) : Ex K C n E cs (tAsg te g) D := fun F as H σ Dc hn w e d => by
  refine h F as H σ _ w e fun x cs1 v F1 as1 H1 h1 s1 w1 r1 => ?_
  have hn' : n ≤ as.length := by rw [w.len]; exact hn
  have s1' := s1.weak hn'
  refine h1 F1 as1 H1 σ v _ (by rw [← w1.len]; exact s1'.len hn') w1 (e.mono s1.f s1.pre) r1 fun E' cs' F' as' H' σ' g t w' e' => ?_
  exact d.nx E' cs' F' as' H' σ' g (s1'.trans t) w' e'
theorem ex_name {i : Nat} (h : Ev K C E cs te fun x cs1 => D.nx (E.set i (some x)) cs1) : Ex K C n E cs (tAsg te (gName i)) D :=
  ex_asg fun F as H σ Q w e z => h F as H σ Q w e fun x cs1 v F1 as1 H1 h1 s1 w1 r1 => z x cs1 v F1 as1 H1 (fun F as H σ v Q hn w e r q => q _ cs1 F as H _ h1 Stp.refl w (e.set r)) s1 w1 r1
theorem ex_ret (h : Ev K C E cs te D.rt) : Ex K C n E cs (tRet te) D := fun F as H σ Dc hn w e d =>
  h F as H σ _ w e fun x cs1 v F1 as1 H1 h1 s1 w1 r1 => d.rt x cs1 F1 as1 H1 v h1 (s1.weak (by rw [w.len]; exact hn)) w1 r1
theorem ex_retN (h : D.rt (.d .none) cs) : Ex K C n E cs tRetN D := fun F as H σ Dc hn w e d => d.rt _ cs F as H _ h Stp.refl w (.d .non)
theorem ex_drop (h : Ev K C E cs te fun _ cs1 => D.nx E cs1) : Ex K C n E cs (tDrop te) D := fun F as H σ Dc hn w e d =>
  h F as H σ _ w e fun x cs1 v F1 as1 H1 h1 s1 w1 r1 => d.nx E cs1 F1 as1 H1 σ h1 (s1.weak (by rw [w.len]; exact hn)) w1 (e.mono s1.f s1.pre)
theorem ex_next (h : D.nx E cs) : Ex K C n E cs tNext D := fun F as H σ Dc hn w e d => d.nx E cs F as H σ h Stp.refl w e
theorem ex_if {c : TT} (h : Evt K C E cs c fun b cs1 => if b = true then Ex K C n E cs1 t D else Ex K C n E cs1 u D) : Ex K C n E cs (tIfS c t u) D := fun F as H σ Dc hn w e d => by
  refine h F as H σ _ w e fun b cs1 F1 as1 H1 h1 s1 w1 => ?_
  have hn' : n ≤ as.length := by rw [w.len]; exact hn
  have s1' := s1.weak hn'
  have hc : n ≤ cs1.length := by rw [← w1.len]; exact s1'.len hn'
  cases b with
  | true => exact h1 F1 as1 H1 σ Dc hc w1 (e.mono s1.f s1.pre) (d.later s1')
  | false => exact h1 F1 as1 H1 σ Dc hc w1 (e.mono s1.f s1.pre) (d.later s1')
theorem ex_par {i j : Nat} (h : Evs K C E cs tas fun xs cs1 => Is2 xs fun x y => D.nx ((E.set i (some x)).set j (some y)) cs1) : Ex K C n E cs (tPar i j tas) D := fun F as H σ Dc hn w e d => by
  refine h F as H σ _ w e fun xs cs1 vs F1 as1 H1 ⟨x, y, hx, h1⟩ s1 w1 r1 => ?_
  subst hx
  cases r1 with | cons r1 r2 =>
  cases r2 with | cons r2 r3 =>
  cases r3
  exact ⟨_, _, rfl, d.nx _ cs1 F1 as1 H1 _ h1 (s1.weak (by rw [w.len]; exact hn)) w1 (((e.mono s1.f s1.pre).set r1).set r2)⟩
theorem ex_par3 {i j l : Nat} (h : Evs K C E cs tas fun xs cs1 => Is3 xs fun x y z => D.nx (((E.set i (some x)).set j (some y)).set l (some z)) cs1) : Ex K C n E cs (tPar3 i j l tas) D := fun F as H σ Dc hn w e d => by
  refine h F as H σ _ w e fun xs cs1 vs F1 as1 H1 ⟨x, y, z, hx, h1⟩ s1 w1 r1 => ?_
  subst hx
  cases r1 with | cons r1 r2 =>
  cases r2 with | cons r2 r3 =>
  cases r3 with | cons r3 r4 =>
  cases r4
  exact ⟨_, _, _, rfl, d.nx _ cs1 F1 as1 H1 _ h1 (s1.weak (by rw [w.len]; exact hn)) w1 ((((e.mono s1.f s1.pre).set r1).set r2).set r3)⟩
/-- a cut: one continuation for several ways -/
theorem ex_cut (Mid : AEnv → List Cell → Prop) (h : Ex K C n E cs t { D with nx := Mid }) (q : ∀ E' cs', Mid E' cs' → Ex K C n E' cs' u D) : Ex K C n E cs (tSeq t u) D :=
  ex_seq fun F as H σ Dc hn w e d => h F as H σ _ hn w e ⟨fun E' cs' F' as' H' σ' g => d.nx E' cs' F' as' H' σ' (q E' cs' g), d.rt, d.bk, d.ct, d.ex⟩
/-! ### dropping what is no longer needed -/
def maskE : List Bool → AEnv → AEnv
  | true :: ms, e :: es => e :: maskE ms es
  | false :: ms, _ :: es => none :: maskE ms es
  | _, _ => []
def ltE (n : Nat) : AEnv → Bool
  | [] => true
  | some x :: es => AV.lt n x && ltE n es
  | none :: es => ltE n es
def ltC (n : Nat) : List Cell → Bool
  | [] => true
  | c :: cs => Cell.lt n c && ltC n cs
theorem ltE_get : ∀ {E : AEnv} {n i : Nat} {x : AV}, ltE n E = true → E[i]? = some (some x) → AV.lt n x = true
  | [], _, _, _, _, h => by simp at h
  | some y :: es, n, 0, x, h, g => by
    simp at g; subst g
    simp only [ltE, Bool.and_eq_true] at h; exact h.1
  | some y :: es, n, i + 1, x, h, g => by
    simp only [ltE, Bool.and_eq_true] at h; exact ltE_get h.2 (by simpa using g)
  | none :: es, n, 0, x, h, g => by simp at g
  | none :: es, n, i + 1, x, h, g => by exact ltE_get (by simpa [ltE] using h) (by simpa using g)
theorem ltC_get {cs : List Cell} {n : Nat} {c : Cell} (h : ltC n cs = true) (m : c ∈ cs) : Cell.lt n c = true := by
  induction cs with
  | nil => exact absurd m List.not_mem_nil
  | cons d ds ih =>
    rw [ltC, Bool.and_eq_true] at h
    rcases List.mem_cons.mp m with e | m
    · rw [e]; exact h.1
    · exact ih h.2 m
theorem maskE_get : ∀ {ms : List Bool} {E : AEnv} {i : Nat} {x : AV}, (maskE ms E)[i]? = some (some x) → E[i]? = some (some x)
  | true :: ms, e :: es, 0, x, h => by simpa [maskE] using h
  | true :: ms, e :: es, i + 1, x, h => by simpa using maskE_get (ms := ms) (by simpa [maskE] using h)
  | false :: ms, e :: es, 0, x, h => by simp [maskE] at h
  | false :: ms, e :: es, i + 1, x, h => by simpa using maskE_get (ms := ms) (by simpa [maskE] using h)
  | [], _, _, _, h => by simp [maskE] at h
  | true :: _, [], _, _, h => by simp [maskE] at h
  | false :: _, [], _, _, h => by simp [maskE] at h
theorem maskE_len : ∀ {ms : List Bool} {E : AEnv}, ms.length = E.length → (maskE ms E).length = E.length
  | [], [], _ => rfl
  | true :: ms, e :: es, h => by simp [maskE, maskE_len (ms := ms) (E := es) (by simpa using h)]
  | false :: ms, e :: es, h => by simp [maskE, maskE_len (ms := ms) (E := es) (by simpa using h)]
theorem EnvR.mask {σ : St} {ms : List Bool} {n : Nat} (e : EnvR K C F as E σ) (hl : ms.length = E.length) (h : ltE n (maskE ms E) = true) : EnvR K C F (as.take n) (maskE ms E) σ :=
  ⟨by rw [maskE_len hl]; exact e.len, fun i x hx => by
    obtain ⟨v, h1, h2⟩ := e.get i x (maskE_get hx)
    exact ⟨v, h1, h2.cut (ltE_get h hx)⟩⟩
/-- P holds once some of the environment and the cells from the j-th on are dropped -/
def Cl (n : Nat) (P : AEnv → List Cell → Prop) (E : AEnv) (cs : List Cell) : Prop :=
  ∃ (ms : List Bool) (j : Nat), ms.length = E.length ∧ n ≤ j ∧ ltE j (maskE ms E) = true ∧ ltC j (cs.take j) = true ∧ P (maskE ms E) (cs.take j)
theorem Cl.run {P : AEnv → List Cell → Prop} (c : Cl n P E cs) {σ : St} {R : Prop} (w : Wd K C F' as' cs H') (e : EnvR K C F' as' E σ) (s : Stp n F as H F' as' H')
    (q : ∀ E1 cs1 as1, P E1 cs1 → Stp n F as H F' as1 H' → Wd K C F' as1 cs1 H' → EnvR K C F' as1 E1 σ → R) : R := by
  obtain ⟨ms, j, h1, h2, h3, h4, h5⟩ := c
  exact q _ _ _ h5 (s.cut h2) (w.cut fun c hc => ltC_get h4 hc) (e.mask h1 h3)
end
end
end Y

/-! # Pure states: other numbers for the cells -/
namespace Y
open PySem L2
/-! ### other numbers for the cells -/
mutual
def AV.ren (ρ : Nat → Nat) : AV → AV
  | .d x => .d x
  | .tup xs => .tup (AV.renAll ρ xs)
  | .cel i => .cel (ρ i)
  | .sub i j => .sub (ρ i) j
  | .scr ds => .scr ds
  | .ty s => .ty s
  | .dct => .dct
  | .raw v => .raw v
  | .exn a b f x => .exn a b f (AV.ren ρ x)
def AV.renAll (ρ : Nat → Nat) : List AV → List AV
  | [] => []
  | x :: xs => AV.ren ρ x :: AV.renAll ρ xs
end
def Cell.ren (ρ : Nat → Nat) : Cell → Cell
  | .a xs => .a (AV.renAll ρ xs)
  | .k lk kvs => .k lk (kvs.map fun p => (p.1, AV.ren ρ p.2))
  | .l ds => .l ds
  | .g ix rs => .g ix rs
  | .m lk ks rs => .m lk ks rs
  | .x => .x
section
variable {K : PySem.W.Frag} {C : Addr} {F F' H H' : Hp} {as as' : Own} {cs cs' cs1 : List Cell} {E : AEnv} {tas : TA}
mutual
theorem AR.ren {ρ : Nat → Nat} (h : ∀ (j : Nat) own, as[j]? = some own → as'[ρ j]? = some own) : ∀ {x : AV} {v : V}, AR K C F as x v → AR K C F as' (x.ren ρ) v
  | .d _, _, r => by cases r with | d r => exact .d r
  | .tup xs, _, r => by cases r with | tup r1 r2 => exact .tup r1 (ARs.ren h r2)
  | .cel i, _, r => by cases r with | cel r => exact .cel (h _ _ r)
  | .sub i j, _, r => by cases r with | sub r1 r2 => exact .sub (h _ _ r1) r2
  | .scr _, _, r => by cases r with | scr r => exact .scr r
  | .ty _, _, r => by cases r; exact .ty
  | .dct, _, r => by cases r with | dct r => exact .dct r
  | .raw _, _, r => by cases r; exact .raw
  | .exn _ _ _ _, _, r => by cases r with | exn r1 r2 => exact .exn r1 (AR.ren h r2)
theorem ARs.ren {ρ : Nat → Nat} (h : ∀ (j : Nat) own, as[j]? = some own → as'[ρ j]? = some own) : ∀ {xs : List AV} {vs : List V}, ARs K C F as xs vs → ARs K C F as' (AV.renAll ρ xs) vs
  | [], _, r => by cases r; exact .nil
  | x :: xs, _, r => by cases r with | cons r1 r2 => exact .cons (AR.ren h r1) (ARs.ren h r2)
end
mutual
theorem AR.unren {ρ : Nat → Nat} {n : Nat} (h : ∀ (j : Nat), j < n → as[ρ j]? = as'[j]?) : ∀ {x : AV} {v : V}, AV.lt n x = true → AR K C F as (x.ren ρ) v → AR K C F as' x v
  | .d _, _, _, r => by cases r with | d r => exact .d r
  | .tup xs, _, l, r => by cases r with | tup r1 r2 => exact .tup r1 (ARs.unren h (by simpa only [AV.lt] using l) r2)
  | .cel i, _, l, r => by cases r with | cel r => exact .cel (by rw [← h i (by simpa [AV.lt] using l)]; exact r)
  | .sub i j, _, l, r => by cases r with | sub r1 r2 => exact .sub (by rw [← h i (by simpa [AV.lt] using l)]; exact r1) r2
  | .scr _, _, _, r => by cases r with | scr r => exact .scr r
  | .ty _, _, _, r => by cases r; exact .ty
  | .dct, _, _, r => by cases r with | dct r => exact .dct r
  | .raw _, _, _, r => by cases r; exact .raw
  | .exn _ _ _ _, _, l, r => by cases r with | exn r1 r2 => exact .exn r1 (AR.unren h (by simpa only [AV.lt] using l) r2)
theorem ARs.unren {ρ : Nat → Nat} {n : Nat} (h : ∀ (j : Nat), j < n → as[ρ j]? = as'[j]?) : ∀ {xs : List AV} {vs : List V}, AV.ltAll n xs = true → ARs K C F as (AV.renAll ρ xs) vs → ARs K C F as' xs vs
  | [], _, _, r => by cases r; exact .nil
  | x :: xs, _, l, r => by
    simp only [AV.ltAll, Bool.and_eq_true] at l
    cases r with | cons r1 r2 => exact .cons (AR.unren h l.1 r1) (ARs.unren h l.2 r2)
end
theorem renAll_map {ρ : Nat → Nat} : ∀ xs : List AV, AV.renAll ρ xs = xs.map (AV.ren ρ)
  | [] => rfl
  | x :: xs => by rw [AV.renAll, renAll_map xs]; rfl
theorem CellOk.ren {ρ : Nat → Nat} {own : List Addr} {c : Cell} (h : ∀ (j : Nat) own, as[j]? = some own → as'[ρ j]? = some own) (k : CellOk K C F as H own c) : CellOk K C F as' H own (c.ren ρ) := by
  cases k with
  | l h1 h2 => exact .l h1 h2
  | a h1 h2 => exact .a h1 (h2.ren h)
  | k h0 h1 h2 h3 =>
    refine .k h0 h1 (by rw [h2, List.map_map]; rfl) ?_
    have := h3.ren h
    rw [renAll_map, List.map_map] at this
    rw [List.map_map]; exact this
  | g h1 h2 h3 => exact .g h1 h2 h3
  | m h1 h2 h3 => exact .m h1 h2 h3
  | x => exact .x
theorem CellOk.unren {ρ : Nat → Nat} {n : Nat} {own : List Addr} {c : Cell} (h : ∀ (j : Nat), j < n → as[ρ j]? = as'[j]?) (l : Cell.lt n c = true) (k : CellOk K C F as H own (c.ren ρ)) : CellOk K C F as' H own c := by
  cases c with
  | l ds => cases k with | l h1 h2 => exact .l h1 h2
  | a xs => cases k with | a h1 h2 => exact .a h1 (h2.unren h l)
  | k lk kvs =>
    cases k with | k h0 h1 h2 h3 =>
    refine .k h0 h1 (by rw [h2, List.map_map]; rfl) ?_
    refine ARs.unren h l ?_
    rw [renAll_map, List.map_map]
    rw [List.map_map] at h3; exact h3
  | g ix rs => cases k with | g h1 h2 h3 => exact .g h1 h2 h3
  | m lk ks rs => cases k with | m h1 h2 h3 => exact .m h1 h2 h3
  | x => exact .x
def EnvSel (ρ : Nat → Nat) (n : Nat) : AEnv → AEnv → Prop
  | [], [] => True
  | none :: es, _ :: fs => EnvSel ρ n es fs
  | some x :: es, f :: fs => f = some (x.ren ρ) ∧ AV.lt n x = true ∧ EnvSel ρ n es fs
  | _, _ => False
theorem EnvSel.len {ρ : Nat → Nat} {n : Nat} : ∀ {E1 E : AEnv}, EnvSel ρ n E1 E → E1.length = E.length
  | [], [], _ => rfl
  | none :: es, _ :: fs, h => by simp [EnvSel.len (E1 := es) (E := fs) h]
  | some x :: es, f :: fs, h => by simp [EnvSel.len (E1 := es) (E := fs) h.2.2]
theorem EnvSel.get {ρ : Nat → Nat} {n : Nat} : ∀ {E1 E : AEnv} {i : Nat} {x : AV}, EnvSel ρ n E1 E → E1[i]? = some (some x) → E[i]? = some (some (x.ren ρ)) ∧ AV.lt n x = true
  | [], _, _, _, _, e => by simp at e
  | none :: es, _ :: fs, 0, _, h, e => by simp at e
  | none :: es, _ :: fs, i + 1, x, h, e => by simpa using EnvSel.get (E1 := es) (E := fs) (i := i) h (by simpa using e)
  | some y :: es, f :: fs, 0, x, h, e => by
    simp at e; subst e
    exact ⟨by rw [h.1]; rfl, h.2.1⟩
  | some y :: es, f :: fs, i + 1, x, h, e => by simpa using EnvSel.get (E1 := es) (E := fs) (i := i) h.2.2 (by simpa using e)
  | some _ :: _, [], _, _, h, _ => h.elim
  | none :: _, [], _, _, h, _ => h.elim
/-- the cells js are kept, the first n in their places -/
structure Sel (n : Nat) (js : List Nat) (E1 : AEnv) (cs1 : List Cell) (E : AEnv) (cs : List Cell) : Prop where
  nd : js.Nodup
  base : js.take n = List.range n
  env : EnvSel (fun j => js.getD j 0) js.length E1 E
  cells : js.map (fun i => cs[i]?) = cs1.map (fun c => some (c.ren fun j => js.getD j 0))
  cl : ltC js.length cs1 = true
theorem Sel.run {n : Nat} {js : List Nat} {E1 : AEnv} {F0 : Hp} {as0 : Own} {H0 : Hp} {σ : St} (S : Sel n js E1 cs1 E cs) (w : Wd K C F as cs H) (e : EnvR K C F as E σ) (s : Stp n F0 as0 H0 F as H) :
    ∃ as1, Stp n F0 as0 H0 F as1 H ∧ Wd K C F as1 cs1 H ∧ EnvR K C F as1 E1 σ := by
  have hlen : cs1.length = js.length := by have := congrArg List.length S.cells; simpa using this.symm
  have hlt : ∀ i ∈ js, i < as.length := fun i hi => by
    obtain ⟨j, hj⟩ := List.mem_iff_getElem?.mp hi
    have := congrArg (fun l => l[j]?) S.cells
    simp only [List.getElem?_map, hj, Option.map_some] at this
    cases e1 : cs1[j]? with
    | none =>
      have := (List.getElem?_eq_none_iff.mp e1); have := (List.getElem?_eq_some_iff.mp hj).1; omega
    | some c =>
      rw [e1] at this
      rw [w.len]
      exact (List.getElem?_eq_some_iff.mp (Option.some.inj this)).1
  obtain ⟨sel, hs⟩ : ∃ sel : Own, sel = js.map fun i => as.getD i [] := ⟨_, rfl⟩
  have hsl : sel.length = js.length := by rw [hs, List.length_map]
  have getD_eq : ∀ i, i < as.length → as[i]? = some (as.getD i []) := fun i hi => by rw [List.getD_eq_getElem?_getD, List.getElem?_eq_getElem hi]; rfl
  have hsel : ∀ (j : Nat) own, sel[j]? = some own → ∃ i, js[j]? = some i ∧ as[i]? = some own := fun j own h => by
    rw [hs, List.getElem?_map] at h
    obtain ⟨i, h1, h2⟩ := Option.map_eq_some_iff.mp h
    exact ⟨i, h1, by rw [getD_eq i (hlt i (List.mem_of_getElem? h1)), h2]⟩
  have rsel : ∀ (j : Nat), j < js.length → as[js.getD j 0]? = sel[j]? := fun j hj => by
    have e1 : js[j]? = some js[j] := List.getElem?_eq_getElem hj
    have e2 : js.getD j 0 = js[j] := by rw [List.getD_eq_getElem?_getD, e1]; rfl
    rw [e2, getD_eq _ (hlt _ (List.getElem_mem hj)), hs, List.getElem?_map, e1]; rfl
  have inj : ∀ {j j' i : Nat}, js[j]? = some i → js[j']? = some i → j = j' := fun {j j' i} h1 h2 => by
    obtain ⟨b1, e1⟩ := List.getElem?_eq_some_iff.mp h1
    obtain ⟨b2, e2⟩ := List.getElem?_eq_some_iff.mp h2
    exact (List.getElem_inj (h₀ := b1) (h₁ := b2) S.nd).mp (e1.trans e2.symm)
  refine ⟨sel, ⟨s.f, fun i hi own ho => ?_, s.fr, s.dm, s.nf, fun b ⟨j, own, hj, hb⟩ => ?_⟩, ⟨w.fro, fun j own hj => ?_, fun j j' own own' hj hj' hne => ?_, fun j own hj => ?_, by rw [hsl, hlen], fun j own c hj hc => ?_, fun j own hj => ?_, w.tp⟩, ⟨S.env.len.trans e.len, fun i x hx => ?_⟩⟩
  · obtain ⟨r, hr⟩ := s.a i hi own ho
    have e1 : js[i]? = some i := by
      have := congrArg (fun l => l[i]?) S.base
      simp only [List.getElem?_take, if_pos hi] at this
      rw [this, List.getElem?_range hi]
    exact ⟨r, by rw [hs, List.getElem?_map, e1]; show some (as.getD i []) = _; rw [← getD_eq i (List.getElem?_eq_some_iff.mp hr).1]; exact hr⟩
  · obtain ⟨i, _, h2⟩ := hsel j own hj
    exact s.na b ⟨i, own, h2, hb⟩
  · obtain ⟨i, _, h2⟩ := hsel j own hj
    exact w.dis i own h2
  · obtain ⟨i, h1, h2⟩ := hsel j own hj
    obtain ⟨i', h1', h2'⟩ := hsel j' own' hj'
    exact w.sep i i' own own' h2 h2' fun z => hne (inj h1 (z ▸ h1'))
  · obtain ⟨i, _, h2⟩ := hsel j own hj
    exact w.nd i own h2
  · obtain ⟨i, h1, h2⟩ := hsel j own hj
    have hc2 : cs[i]? = some (c.ren (fun j => js.getD j 0)) := by
      have := congrArg (fun l => l[j]?) S.cells
      simp only [List.getElem?_map, h1, hc, Option.map_some] at this
      exact Option.some.inj this
    exact CellOk.unren rsel (ltC_get S.cl (List.mem_of_getElem? hc)) (w.ok i own _ h2 hc2)
  · obtain ⟨i, _, h2⟩ := hsel j own hj
    exact w.mu i own h2
  · obtain ⟨g1, g2⟩ := S.env.get hx
    obtain ⟨v, g3, g4⟩ := e.get i _ g1
    exact ⟨v, g3, AR.unren rsel g2 g4⟩
/-- P holds once some things are dropped -/
def Cm (n : Nat) (P : AEnv → List Cell → Prop) (E : AEnv) (cs : List Cell) : Prop := Cl n P E cs ∨ (∃ js E1 cs1, Sel n js E1 cs1 E cs ∧ P E1 cs1) ∨ P E cs
theorem Cm.run {n : Nat} {P : AEnv → List Cell → Prop} {F0 : Hp} {as0 : Own} {H0 : Hp} (c : Cm n P E cs) {σ : St} {R : Prop} (w : Wd K C F as cs H) (e : EnvR K C F as E σ) (s : Stp n F0 as0 H0 F as H)
    (q : ∀ E1 cs1 as1, P E1 cs1 → Stp n F0 as0 H0 F as1 H → Wd K C F as1 cs1 H → EnvR K C F as1 E1 σ → R) : R := by
  rcases c with c | ⟨js, E1, cs1, S, hp⟩ | hp
  · exact c.run w e s q
  · obtain ⟨as1, s1, w1, e1⟩ := S.run w e s
    exact q E1 cs1 as1 hp s1 w1 e1
  · exact q E cs as hp s w e
theorem Cm.mask {n : Nat} {P : AEnv → List Cell → Prop} (ms : List Bool) (j : Nat) (h1 : ms.length = E.length) (h2 : n ≤ j) (h3 : ltE j (maskE ms E) = true) (h4 : ltC j (cs.take j) = true) (h : P (maskE ms E) (cs.take j)) : Cm n P E cs := .inl ⟨ms, j, h1, h2, h3, h4, h⟩
theorem Cm.sel {n : Nat} {P : AEnv → List Cell → Prop} (js : List Nat) {E1 : AEnv} (S : Sel n js E1 cs1 E cs) (h : P E1 cs1) : Cm n P E cs := .inr (.inl ⟨js, E1, cs1, S, h⟩)
theorem Cm.here {n : Nat} {P : AEnv → List Cell → Prop} (h : P E cs) : Cm n P E cs := .inr (.inr h)
end
end Y

/-! # Pure states: targets, loops, comprehensions -/
namespace Y
open PySem L2
section
variable {K : PySem.W.Frag} {C : Addr} {F F' H H' : Hp} {as as' : Own} {cs cs' cs1 : List Cell} {E : AEnv} {ta tb te tc : TE} {tas tar : TA} {n m : Nat} {D : AEnds}
/-! ### targets -/
def Eg (K : PySem.W.Frag) (C : Addr) (n : Nat) (E : AEnv) (y : AV) (cs : List Cell) (g : TG) (kg : AEnv → List Cell → Prop) : Prop :=
  ∀ F as H σ v (Q : St → Hp → Prop), n ≤ cs.length → Wd K C F as cs H → EnvR K C F as E σ → AR K C F as y v → (∀ E' cs' F' as' H' σ', kg E' cs' → Stp n F as H F' as' H' → Wd K C F' as' cs' H' → EnvR K C F' as' E' σ' → Q σ' H') → g v σ H Q
def Egs (K : PySem.W.Frag) (C : Addr) (n : Nat) (E : AEnv) (ys : List AV) (cs : List Cell) (g : TGs) (kg : AEnv → List Cell → Prop) : Prop :=
  ∀ F as H σ vs (Q : St → Hp → Prop), n ≤ cs.length → Wd K C F as cs H → EnvR K C F as E σ → ARs K C F as ys vs → (∀ E' cs' F' as' H' σ', kg E' cs' → Stp n F as H F' as' H' → Wd K C F' as' cs' H' → EnvR K C F' as' E' σ' → Q σ' H') → g vs σ H Q
variable {kg : AEnv → List Cell → Prop}
theorem ex_to {g : TG} (h : Ev K C E cs te fun x cs1 => Eg K C n E x cs1 g D.nx) : Ex K C n E cs (tAsg te g) D := ex_asg h
theorem eg_name {i : Nat} {y : AV} (h : kg (E.set i (some y)) cs) : Eg K C n E y cs (gName i) kg := fun F as H σ v Q _ w e r q => q _ cs F as H _ h Stp.refl w (e.set r)
theorem egs_nil (h : kg E cs) : Egs K C n E [] cs gNil kg := fun F as H σ vs Q _ w e r q => by cases r; exact ⟨rfl, q E cs F as H σ h Stp.refl w e⟩
theorem egs_cons {i : Nat} {gr : TGs} {y : AV} {ys : List AV} (h : Egs K C n (E.set i (some y)) ys cs gr kg) : Egs K C n E (y :: ys) cs (gCons (gName i) gr) kg := fun F as H σ vs Q hn w e r q => by
  cases r with | cons r1 r2 => exact ⟨_, _, rfl, h F as H _ _ Q hn w (e.set r1) r2 q⟩
theorem eg_tupD {l : Nat} {gs : TGs} {ds : List PyData} (hl : ds.length = l) (h : Egs K C n E (ds.map AV.d) cs gs kg) : Eg K C n E (.d (.tuple ds)) cs (gTup K l gs) kg := fun F as H σ v Q hn w e r q => by
  cases r with | d r =>
  obtain ⟨a, xs, rfl, h1, h2⟩ := r.tup_inv
  exact ⟨a, xs, rfl, w.fro.sqT h1, by rw [h2.length]; exact hl, h F as H σ xs Q hn w e (ARs.data h2) q⟩
theorem eg_tup {l : Nat} {gs : TGs} {ys : List AV} (hl : ys.length = l) (h : Egs K C n E ys cs gs kg) : Eg K C n E (.tup ys) cs (gTup K l gs) kg := fun F as H σ v Q hn w e r q => by
  cases r with | tup h1 h2 => exact ⟨_, _, rfl, w.fro.sqT h1, by rw [← h2.length]; exact hl, h F as H σ _ Q hn w e h2 q⟩
/-! ### what a loop goes over -/
structure Src (K : PySem.W.Frag) (C : Addr) (J : It) (m : Nat) (F0 : Hp) (as0 : Own) (H0 : Hp) (ok : List Cell → Prop) (items : List AV) : Prop where
  turn : ∀ (t : Nat) y F as cs H, items[t]? = some y → ok cs → Stp m F0 as0 H0 F as H → Wd K C F as cs H → J.go t H ∧ ∀ x H', J.yld t H x H' → ∃ F', Stp as.length F as H F' as H' ∧ Wd K C F' as cs H' ∧ AR K C F' as y x
  stop : ∀ F as cs H, ok cs → Stp m F0 as0 H0 F as H → Wd K C F as cs H → J.stop items.length H
def Evi (K : PySem.W.Frag) (C : Addr) (m : Nat) (E : AEnv) (cs : List Cell) (wi : TI) (ki : List AV → (List Cell → Prop) → List Cell → Prop) : Prop :=
  ∀ (F : Hp) (as : Own) (H : Hp) (σ : St) (R : It → Hp → Prop), Wd K C F as cs H → EnvR K C F as E σ →
    (∀ items ok cs1 F1 as1 H1 J, ki items ok cs1 → Stp as.length F as H F1 as1 H1 → Wd K C F1 as1 cs1 H1 → Src K C J m F1 as1 H1 ok items → R J H1) → wi σ H R
variable {ki : List AV → (List Cell → Prop) → List Cell → Prop}
theorem sq_some {xs : List V} {ds : List AV} (r : ARs K C F as ds xs) {t : Nat} {y : AV} (h : ds[t]? = some y) : ∃ v, xs[t]? = some v ∧ AR K C F as y v := r.get h
/-- a list that is frozen -/
theorem ei_listD (h : Ev K C E cs te fun x cs1 => IsL x fun ds => ki (ds.map AV.d) (fun _ => True) cs1) : Evi K C m E cs (iList K te) ki := fun F as H σ R w e q => by
  refine h F as H σ _ w e fun x cs1 v F1 as1 H1 ⟨ds, hx, h1⟩ s1 w1 r1 => ?_
  subst hx
  cases r1 with | d r1 =>
  obtain ⟨a, xs, rfl, hs, hd⟩ := r1.lst_inv
  have hl := hd.length
  refine ⟨a, rfl, ⟨xs, hs.same w1.fro⟩, q _ _ cs1 F1 as1 H1 _ h1 s1 w1 ⟨fun t y F2 as2 cs2 H2 ht _ s2 w2 => ?_, fun F2 as2 cs2 H2 _ s2 w2 => ?_⟩⟩
  · have hs2 := (hs.same s2.f).same w2.fro
    obtain ⟨v, hv, rv⟩ := (ARs.data (C := C) (as := as2) (s2.f.dpAll hd)).get ht
    exact ⟨⟨xs, v, hs2, hv⟩, fun x H' ⟨e1, e2⟩ => ⟨F2, by rw [e1]; exact Stp.refl, by rw [e1]; exact w2, by have := e2 xs hs2; rw [hv] at this; cases this; exact rv⟩⟩
  · have hs2 := (hs.same s2.f).same w2.fro
    exact ⟨xs, hs2, by rw [List.length_map, hl]; exact Nat.le_refl _⟩
theorem ei_tupD (h : Ev K C E cs te fun x cs1 => IsT x fun ds => ki (ds.map AV.d) (fun _ => True) cs1) : Evi K C m E cs (iTup K te) ki := fun F as H σ R w e q => by
  refine h F as H σ _ w e fun x cs1 v F1 as1 H1 ⟨ds, hx, h1⟩ s1 w1 r1 => ?_
  subst hx
  cases r1 with | d r1 =>
  obtain ⟨a, xs, rfl, hs, hd⟩ := r1.tup_inv
  have hl := hd.length
  refine ⟨a, rfl, ⟨xs, w1.fro.sqT hs⟩, q _ _ cs1 F1 as1 H1 _ h1 s1 w1 ⟨fun t y F2 as2 cs2 H2 ht _ s2 w2 => ?_, fun F2 as2 cs2 H2 _ s2 w2 => ?_⟩⟩
  · have hs2 := w2.fro.sqT (s2.f.sqT hs)
    obtain ⟨v, hv, rv⟩ := (ARs.data (C := C) (as := as2) (s2.f.dpAll hd)).get ht
    exact ⟨⟨xs, v, hs2, hv⟩, fun x H' ⟨e1, e2⟩ => ⟨F2, by rw [e1]; exact Stp.refl, by rw [e1]; exact w2, by have := e2 xs hs2; rw [hv] at this; cases this; exact rv⟩⟩
  · have hs2 := w2.fro.sqT (s2.f.sqT hs)
    exact ⟨xs, hs2, by rw [List.length_map, hl]; exact Nat.le_refl _⟩
/-- what a list cell holds -/
theorem Wd.lst (w : Wd K C F as cs H) {i : Nat} {ds : List PyData} {p : Addr} {r : List Addr} (hp : as[i]? = some (p :: r)) (h : cs[i]? = some (.l ds)) : r = [] ∧ ∃ vs, H p = some (.lst vs) ∧ DpAll K F vs ds := by
  have := w.ok i _ _ hp h
  cases this with | l h1 h2 => exact ⟨rfl, _, h1, h2⟩
theorem Wd.lsa (w : Wd K C F as cs H) {i : Nat} {xs : List AV} {p : Addr} {r : List Addr} (hp : as[i]? = some (p :: r)) (h : cs[i]? = some (.a xs)) : r = [] ∧ ∃ vs, H p = some (.lst vs) ∧ ARs K C F as xs vs := by
  have := w.ok i _ _ hp h
  cases this with | a h1 h2 => exact ⟨rfl, _, h1, h2⟩
/-- a list cell, unchanged through the loop -/
theorem ei_listC (j : Nat) (hj : j < m) (h : Ev K C E cs te fun x cs1 => x = .cel j ∧ ∃ ds, cs1[j]? = some (.l ds) ∧ ki (ds.map AV.d) (fun cs2 => cs2[j]? = some (.l ds)) cs1) : Evi K C m E cs (iList K te) ki := fun F as H σ R w e q => by
  refine h F as H σ _ w e fun x cs1 v F1 as1 H1 ⟨hx, ds, hc, h1⟩ s1 w1 r1 => ?_
  subst hx
  cases r1 with | cel hp =>
  obtain ⟨rfl, vs, hH, hd⟩ := w1.lst hp hc
  refine ⟨_, rfl, ⟨vs, SqL.of hH⟩, q _ _ cs1 F1 as1 H1 _ h1 s1 w1 ⟨fun t y F2 as2 cs2 H2 ht hok s2 w2 => ?_, fun F2 as2 cs2 H2 hok s2 w2 => ?_⟩⟩
  · obtain ⟨r, hr⟩ := s2.a j hj _ hp
    obtain ⟨_, vs2, hH2, hd2⟩ := w2.lst hr hok
    obtain ⟨v, hv, rv⟩ := (ARs.data (C := C) (as := as2) hd2).get ht
    have hs2 : SqL K H2 _ vs2 := SqL.of hH2
    exact ⟨⟨vs2, v, hs2, hv⟩, fun x H' ⟨e1, e2⟩ => ⟨F2, by rw [e1]; exact Stp.refl, by rw [e1]; exact w2, by have := e2 vs2 hs2; rw [hv] at this; cases this; exact rv⟩⟩
  · obtain ⟨r, hr⟩ := s2.a j hj _ hp
    obtain ⟨_, vs2, hH2, hd2⟩ := w2.lst hr hok
    exact ⟨vs2, SqL.of hH2, by rw [List.length_map, hd2.length]; exact Nat.le_refl _⟩
theorem ei_listA (j : Nat) (hj : j < m) (h : Ev K C E cs te fun x cs1 => x = .cel j ∧ ∃ xs, cs1[j]? = some (.a xs) ∧ ki xs (fun cs2 => cs2[j]? = some (.a xs)) cs1) : Evi K C m E cs (iList K te) ki := fun F as H σ R w e q => by
  refine h F as H σ _ w e fun x cs1 v F1 as1 H1 ⟨hx, ds, hc, h1⟩ s1 w1 r1 => ?_
  subst hx
  cases r1 with | cel hp =>
  obtain ⟨rfl, vs, hH, hd⟩ := w1.lsa hp hc
  refine ⟨_, rfl, ⟨vs, SqL.of hH⟩, q _ _ cs1 F1 as1 H1 _ h1 s1 w1 ⟨fun t y F2 as2 cs2 H2 ht hok s2 w2 => ?_, fun F2 as2 cs2 H2 hok s2 w2 => ?_⟩⟩
  · obtain ⟨r, hr⟩ := s2.a j hj _ hp
    obtain ⟨_, vs2, hH2, hd2⟩ := w2.lsa hr hok
    obtain ⟨v, hv, rv⟩ := hd2.get ht
    have hs2 : SqL K H2 _ vs2 := SqL.of hH2
    exact ⟨⟨vs2, v, hs2, hv⟩, fun x H' ⟨e1, e2⟩ => ⟨F2, by rw [e1]; exact Stp.refl, by rw [e1]; exact w2, by have := e2 vs2 hs2; rw [hv] at this; cases this; exact rv⟩⟩
  · obtain ⟨r, hr⟩ := s2.a j hj _ hp
    obtain ⟨_, vs2, hH2, hd2⟩ := w2.lsa hr hok
    exact ⟨vs2, SqL.of hH2, by rw [hd2.length]; exact Nat.le_refl _⟩
def rngA (lo : Int) (n : Nat) : List AV := (List.range n).map fun (t : Nat) => .d (.int (lo + (t : Int)))
theorem rngA_get {lo : Int} {n t : Nat} {y : AV} (h : (rngA lo n)[t]? = some y) : t < n ∧ y = .d (.int (lo + (t : Int))) := by
  unfold rngA at h
  rw [List.getElem?_map] at h
  obtain ⟨j, hj, rfl⟩ := Option.map_eq_some_iff.mp h
  obtain ⟨h1, h2⟩ := List.getElem?_eq_some_iff.mp hj
  rw [List.length_range] at h1
  rw [List.getElem_range] at h2
  subst h2
  exact ⟨h1, rfl⟩
theorem rngA_len {lo : Int} {n : Nat} : (rngA lo n).length = n := by simp [rngA]
theorem src_rng {lo : Int} {n : Nat} {H0 : Hp} {as0 : Own} {F0 : Hp} : Src K C (Itr lo n) m F0 as0 H0 (fun _ => True) (rngA lo n) :=
  ⟨fun t y F2 as2 cs2 H2 ht _ s2 w2 => by
    obtain ⟨h1, rfl⟩ := rngA_get ht
    exact ⟨h1, fun x H' ⟨e1, e2⟩ => ⟨F2, by rw [e1]; exact Stp.refl, by rw [e1]; exact w2, by rw [e2]; exact .d (.int _)⟩⟩, fun F2 as2 cs2 H2 _ s2 w2 => by rw [rngA_len]; exact Nat.le_refl n⟩
theorem ei_rng1 (h : Evs K C E cs tas fun xs cs1 => IsI1 xs fun j => -(2 ^ 62) ≤ j ∧ j < 2 ^ 62 ∧ ki (rngA 0 j.toNat) (fun _ => True) cs1) : Evi K C m E cs (iRng1 tas) ki := fun F as H σ R w e q => by
  refine h F as H σ _ w e fun xs cs1 vs F1 as1 H1 ⟨j, hx, hj1, hj2, h1⟩ s1 w1 r1 => ?_
  subst hx
  cases r1 with | cons r1 r2 =>
  cases r2
  cases r1 with | d r1 =>
  exact ⟨j, by rw [r1.int_inv], hj1, hj2, q _ _ cs1 F1 as1 H1 _ h1 s1 w1 src_rng⟩
theorem ei_rng2 (h : Evs K C E cs tas fun xs cs1 => IsI2 xs fun i j => (-(2 ^ 62) ≤ i ∧ i < 2 ^ 62 ∧ -(2 ^ 62) ≤ j ∧ j < 2 ^ 62) ∧ ki (rngA i (j - i).toNat) (fun _ => True) cs1) : Evi K C m E cs (iRng2 tas) ki := fun F as H σ R w e q => by
  refine h F as H σ _ w e fun xs cs1 vs F1 as1 H1 ⟨i, j, hx, hb, h1⟩ s1 w1 r1 => ?_
  subst hx
  cases r1 with | cons r1 r2 =>
  cases r2 with | cons r2 r3 =>
  cases r3
  cases r1 with | d r1 =>
  cases r2 with | d r2 =>
  exact ⟨i, j, by rw [r1.int_inv, r2.int_inv], hb, q _ _ cs1 F1 as1 H1 _ h1 s1 w1 src_rng⟩
/-! ### for -/
theorem ex_for {wi : TI} {g : TG} {t : TS} (m : Nat) (hnm : n ≤ m) (h : Evi K C m E cs wi fun items ok cs1 => m ≤ cs1.length ∧ ∃ Iv : Nat → AEnv → List Cell → Prop, Iv 0 E cs1 ∧ (∀ i E' cs', Iv i E' cs' → ok cs') ∧
      (∀ i y E' cs', items[i]? = some y → Iv i E' cs' → Eg K C m E' y cs' g fun E2 cs2 => Ex K C m E2 cs2 t { D with nx := Cm m (Iv (i + 1)), ct := Cm m (Iv (i + 1)), bk := Cm n D.nx }) ∧ ∀ E' cs', Iv items.length E' cs' → D.nx E' cs') :
    Ex K C n E cs (tFor wi g t) D := fun F as H σ Dc hn w e d => by
  refine h F as H σ _ w e fun items ok cs1 F1 as1 H1 J ⟨hm, Iv, h0, hok, hstep, hend⟩ s1 w1 src => ?_
  have hn' : n ≤ as.length := by rw [w.len]; exact hn
  have s1n := s1.weak hn'
  have d1 := d.later s1n
  refine ⟨fun i mm σ H => i + mm = items.length ∧ ∃ E' cs' F' as', Iv i E' cs' ∧ Stp m F1 as1 H1 F' as' H ∧ Wd K C F' as' cs' H ∧ EnvR K C F' as' E' σ, ⟨items.length, by omega, E, cs1, F1, as1, h0, Stp.refl, w1, e.mono s1.f s1.pre⟩, ?_⟩
  rintro i mm σ H ⟨him, E', cs', F', as', hI, sI, wI, eI⟩
  cases mm with
  | zero =>
    have hi : i = items.length := by omega
    subst hi
    exact .inl ⟨src.stop F' as' cs' H (hok _ _ _ hI) sI wI, d1.nx E' cs' F' as' H σ (hend _ _ hI) (sI.weak hnm) wI eI⟩
  | succ mm =>
    obtain ⟨y, hy⟩ : ∃ y, items[i]? = some y := ⟨_, List.getElem?_eq_getElem (by omega)⟩
    obtain ⟨hgo, hy2⟩ := src.turn i y F' as' cs' H hy (hok _ _ _ hI) sI wI
    refine .inr ⟨hgo, fun σ' H' => (i + 1) + mm = items.length ∧ ∃ E' cs' F' as', Iv (i + 1) E' cs' ∧ Stp m F1 as1 H1 F' as' H' ∧ Wd K C F' as' cs' H' ∧ EnvR K C F' as' E' σ', fun σ' H' h => ⟨mm, by omega, h⟩, fun x H' hx => ?_⟩
    obtain ⟨F2, s2, w2, r2⟩ := hy2 x H' hx
    have hm' : m ≤ as'.length := sI.len (by rw [w1.len]; exact hm)
    have s2m := s2.weak hm'
    refine hstep i y E' cs' hy hI F2 as' H' σ x _ (by rw [← w2.len]; exact hm') w2 (eI.mono s2.f s2.pre) r2 fun E3 cs3 F3 as3 H3 σ3 h3 s3 w3 e3 => ?_
    have s03 := sI.trans (s2m.trans s3)
    refine h3 F3 as3 H3 σ3 _ (by rw [← w3.len]; exact s3.len hm') w3 e3 ⟨fun E4 cs4 F4 as4 H4 σ4 h4 s4 w4 e4 => ?_, fun x4 cs4 F4 as4 H4 v4 h4 s4 w4 r4 => d1.rt x4 cs4 F4 as4 H4 v4 h4 ((s03.trans s4).weak hnm) w4 r4, fun E4 cs4 F4 as4 H4 σ4 h4 s4 w4 e4 => ?_, fun E4 cs4 F4 as4 H4 σ4 h4 s4 w4 e4 => ?_, fun c4 p4 E4 cs4 F4 as4 H4 σ4 dd h4 s4 w4 e4 x4 => d1.ex c4 p4 E4 cs4 F4 as4 H4 σ4 dd h4 ((s03.trans s4).weak hnm) w4 e4 x4⟩
    · exact h4.run w4 e4 (s03.trans s4) fun E5 cs5 as5 p5 s5 w5 e5 => ⟨by omega, E5, cs5, F4, as5, p5, s5, w5, e5⟩
    · exact h4.run w4 e4 ((s03.trans s4).weak hnm) fun E5 cs5 as5 p5 s5 w5 e5 => d1.nx E5 cs5 F4 as5 H4 σ4 p5 s5 w5 e5
    · exact h4.run w4 e4 (s03.trans s4) fun E5 cs5 as5 p5 s5 w5 e5 => ⟨by omega, E5, cs5, F4, as5, p5, s5, w5, e5⟩
/-! ### comprehensions -/
theorem wipe_get {σ : St} {j : Nat} : ∀ vs : List Nat, (wipe σ vs)[j]? = if j ∈ vs then (σ[j]?).map (fun _ => none) else σ[j]?
  | [] => by rw [if_neg (by simp)]; rfl
  | v :: vs => by
    rw [wipe, List.getElem?_set, wipe_get vs, wipe_length]
    by_cases e : v = j
    · subst e
      rw [if_pos rfl, if_pos (List.mem_cons_self)]
      by_cases h : v < σ.length
      · rw [if_pos h, List.getElem?_eq_getElem h]; rfl
      · rw [if_neg h, List.getElem?_eq_none (Nat.le_of_not_lt h)]; rfl
    · rw [if_neg e]
      have : (j ∈ v :: vs) ↔ j ∈ vs := by simp [Ne.symm e]
      by_cases h : j ∈ vs
      · rw [if_pos h, if_pos (this.mpr h)]
      · rw [if_neg h, if_neg (fun z => h (this.mp z))]
theorem wipe_set {σ : St} {i : Nat} {x : Option V} {vs : List Nat} (h : i ∈ vs) : wipe (σ.set i x) vs = wipe σ vs := by
  refine List.ext_getElem? fun j => ?_
  rw [wipe_get, wipe_get, List.getElem?_set]
  by_cases e : i = j
  · subst e
    rw [if_pos h, if_pos h, if_pos rfl]
    by_cases h : i < σ.length
    · rw [if_pos h, List.getElem?_eq_getElem h]; rfl
    · rw [if_neg h, List.getElem?_eq_none (Nat.le_of_not_lt h)]
      first | done | rfl
  · rw [if_neg e]
theorem wipe_wipe {σ : St} {vs : List Nat} : wipe (wipe σ vs) vs = wipe σ vs := by
  refine List.ext_getElem? fun j => ?_
  rw [wipe_get, wipe_get]
  split
  · rw [Option.map_map]; rfl
  · rfl
def wipeE (E : AEnv) : List Nat → AEnv
  | [] => E
  | v :: vs => (wipeE E vs).set v none
theorem EnvR.setN {σ : St} {i : Nat} {x : Option V} (e : EnvR K C F as E σ) : EnvR K C F as (E.set i none) (σ.set i x) := by
  refine ⟨by rw [List.length_set, List.length_set, e.len], fun j y hj => ?_⟩
  rw [List.getElem?_set] at hj
  by_cases c : i = j
  · rw [if_pos c] at hj
    split at hj <;> cases hj
  · rw [if_neg c] at hj
    rw [List.getElem?_set, if_neg c]
    exact e.get j y hj
theorem EnvR.wipe {σ : St} (e : EnvR K C F as E σ) : ∀ vs, EnvR K C F as (wipeE E vs) (wipe σ vs)
  | [] => e
  | v :: vs => (EnvR.wipe e vs).setN
/-- a comprehension's target -/
def EgC (K : PySem.W.Frag) (C : Addr) (vs : List Nat) (E : AEnv) (y : AV) (cs : List Cell) (g : TG) (kg : AEnv → List Cell → Prop) : Prop :=
  ∀ F as H σ0 σ v (Q : St → Hp → Prop), Wd K C F as cs H → EnvR K C F as E σ → AR K C F as y v → L2.wipe σ vs = σ0 → (∀ E' σ', kg E' cs → EnvR K C F as E' σ' → L2.wipe σ' vs = σ0 → Q σ' H) → g v σ H Q
def EgsC (K : PySem.W.Frag) (C : Addr) (vs : List Nat) (E : AEnv) (ys : List AV) (cs : List Cell) (g : TGs) (kg : AEnv → List Cell → Prop) : Prop :=
  ∀ F as H σ0 σ v (Q : St → Hp → Prop), Wd K C F as cs H → EnvR K C F as E σ → ARs K C F as ys v → L2.wipe σ vs = σ0 → (∀ E' σ', kg E' cs → EnvR K C F as E' σ' → L2.wipe σ' vs = σ0 → Q σ' H) → g v σ H Q
variable {vs : List Nat}
theorem egc_name {i : Nat} {y : AV} (hi : i ∈ vs) (h : kg (E.set i (some y)) cs) : EgC K C vs E y cs (gName i) kg := fun F as H σ0 σ v Q w e r hw q => q _ _ h (e.set r) (by rw [wipe_set hi]; exact hw)
theorem egsc_nil (h : kg E cs) : EgsC K C vs E [] cs gNil kg := fun F as H σ0 σ v Q w e r hw q => by cases r; exact ⟨rfl, q E σ h e hw⟩
theorem egsc_cons {i : Nat} {gr : TGs} {y : AV} {ys : List AV} (hi : i ∈ vs) (h : EgsC K C vs (E.set i (some y)) ys cs gr kg) : EgsC K C vs E (y :: ys) cs (gCons (gName i) gr) kg := fun F as H σ0 σ v Q w e r hw q => by
  cases r with | cons r1 r2 => exact ⟨_, _, rfl, h F as H σ0 _ _ Q w (e.set r1) r2 (by rw [wipe_set hi]; exact hw) q⟩
theorem egc_tupD {l : Nat} {gs : TGs} {ds : List PyData} (hl : ds.length = l) (h : EgsC K C vs E (ds.map AV.d) cs gs kg) : EgC K C vs E (.d (.tuple ds)) cs (gTup K l gs) kg := fun F as H σ0 σ v Q w e r hw q => by
  cases r with | d r =>
  obtain ⟨a, xs, rfl, h1, h2⟩ := r.tup_inv
  exact ⟨a, xs, rfl, w.fro.sqT h1, by rw [h2.length]; exact hl, h F as H σ0 σ xs Q w e (ARs.data h2) hw q⟩
theorem egc_tup {l : Nat} {gs : TGs} {ys : List AV} (hl : ys.length = l) (h : EgsC K C vs E ys cs gs kg) : EgC K C vs E (.tup ys) cs (gTup K l gs) kg := fun F as H σ0 σ v Q w e r hw q => by
  cases r with | tup h1 h2 => exact ⟨_, _, rfl, w.fro.sqT h1, by rw [← h2.length]; exact hl, h F as H σ0 σ _ Q w e h2 hw q⟩
theorem Wd.out (w : Wd K C F as cs H) {p : Addr} {o : HO} (hA : ¬ inA as p) (hF : F p = none) (ho : NoTup o) : Wd K C F as cs (upd H p o) := by
  have nb : ∀ {i own}, as[i]? = some own → ∀ b ∈ own, b ≠ p := fun hi b hb z => hA ⟨_, _, hi, z ▸ hb⟩
  refine ⟨fun b u h => ?_, fun i own hi b hb => ?_, w.sep, w.nd, w.len, fun i own c hi hc => (w.ok i own c hi hc).mono (Same.refl F) Pre.refl fun b hb o h => by rw [upd_ne (nb hi b hb)]; exact h, fun i own hi b hb u h => ?_, fun b u h n => ?_⟩
  · have nz : b ≠ p := fun z => by rw [z, hF] at h; cases h
    rw [upd_ne nz]; exact w.fro b u h
  · rw [upd_ne (nb hi b hb)]; exact w.dis i own hi b hb
  · rw [upd_ne (nb hi b hb)] at h; exact w.mu i own hi b hb u h
  · by_cases e : b = p
    · subst e; rw [upd_same] at h; cases h; exact absurd ho n
    · rw [upd_ne e] at h; exact w.tp b u h n
/-- an outer list becomes a cell -/
theorem Wd.adopt (w : Wd K C F as cs H) {p : Addr} {o : HO} {c : Cell} (hA : ¬ inA as p) (hF : F p = none) (hp : H p = some o) (ho : NoTup o) (hc : CellOk K C F (as ++ [[p]]) H [p] c) : Wd K C F (as ++ [[p]]) (cs ++ [c]) H := by
  have nb : ∀ {i own}, as[i]? = some own → ∀ b ∈ own, b ≠ p := fun hi b hb z => hA ⟨_, _, hi, z ▸ hb⟩
  refine ⟨w.fro, fun i own hi b hb => ?_, fun i j own own' hi hj hij b hb => ?_, fun i own hi => ?_, by simp [w.len], fun i own c' hi hc' => ?_, fun i own hi b hb u h => ?_, w.tp⟩
  · rcases get_snoc hi with hi | ⟨rfl, rfl⟩
    · exact w.dis i own hi b hb
    · rw [List.mem_singleton.mp hb, hp]; exact ⟨hF, by simp⟩
  · rcases get_snoc hi with hi | ⟨rfl, rfl⟩ <;> rcases get_snoc hj with hj | ⟨rfl, rfl⟩
    · exact w.sep i j own own' hi hj hij b hb
    · intro z; exact nb hi b hb (List.mem_singleton.mp z)
    · rw [List.mem_singleton.mp hb]; intro z; exact nb hj p z rfl
    · exact absurd rfl hij
  · rcases get_snoc hi with hi | ⟨rfl, rfl⟩
    · exact w.nd i own hi
    · simp
  · rcases get_snoc hi with hi | ⟨rfl, rfl⟩
    · rw [List.getElem?_append_left (by rw [← w.len]; exact (List.getElem?_eq_some_iff.mp hi).1)] at hc'
      exact (w.ok i own c' hi hc').mono (Same.refl F) Pre.snoc fun b _ o h => h
    · rw [w.len] at hc'
      rcases get_snoc hc' with z | ⟨_, rfl⟩
      · rw [List.getElem?_eq_none (Nat.le_refl _)] at z; cases z
      · exact hc
  · rcases get_snoc hi with hi | ⟨rfl, rfl⟩
    · exact w.mu i own hi b hb u h
    · rw [List.mem_singleton.mp hb, hp] at h; cases h; exact ho
theorem nonF {n : Nat} {L : Addr} {o : HO} (t : Stp n F as H F' as' H') (nF : F L = none) (hx : H L = some o) : F' L = none := by
  cases e : F' L with
  | none => rfl
  | some u =>
    rcases t.nf L u e with q | q
    · rw [nF] at q; cases q
    · rw [hx] at q; cases q
/-- [e for g in wi if tt]: the items are data -/
theorem ev_lc {k : AV → List Cell → Prop} {wi : TI} {g : TG} {tt : TT} (m : Nat) (h : Evi K C m E cs wi fun items ok cs1 => m = cs1.length ∧ items.length ≤ 99999 ∧ ∃ Iv : Nat → List PyData → List Cell → Prop, Iv 0 [] cs1 ∧ (∀ i acc cs', Iv i acc cs' → ok cs') ∧
      (∀ i y acc cs', items[i]? = some y → Iv i acc cs' → EgC K C vs (wipeE E vs) y cs' g fun E2 cs2 => Evt K C E2 cs2 tt fun b cs3 =>
        if b = true then Ev K C E2 cs3 te fun z cs4 => ∃ d, z = .d d ∧ Cl m (fun _ => Iv (i + 1) (acc ++ [d])) [] cs4 else Cl m (fun _ => Iv (i + 1) acc) [] cs3) ∧
      ∀ acc cs', Iv items.length acc cs' → k (.cel cs'.length) (cs' ++ [.l acc])) : Ev K C E cs (tLc wi g tt te vs) k := fun F as H σ Q w e z => by
  refine h F as H σ _ w e fun items ok cs1 F1 as1 H1 J ⟨hm, hlen, Iv, h0, hok, hstep, hend⟩ s1 w1 src => ?_
  subst hm
  intro L hL
  have hL1 : F1 L = none := w1.fro.free hL
  have hLA : ¬ inA as1 L := fun ⟨i, own, hi, hb⟩ => (w1.dis i own hi L hb).2 hL
  have e1 := (e.mono s1.f s1.pre).wipe vs
  have sL : Stp cs1.length F1 as1 H1 F1 as1 (upd H1 L (.lst [])) := ⟨Same.refl F1, fun i _ own h => ⟨[], by rw [List.append_nil]; exact h⟩, fun b o h _ => (Same.new hL) b o h, fun b h => (Wd.newF.updN0 h).2, fun b o h => .inl h, fun b h => .inl h⟩
  refine ⟨fun i mm H => i + mm = items.length ∧ ∃ acc xs cs' F' as', Iv i acc cs' ∧ acc.length ≤ i ∧ Stp cs1.length F1 as1 H1 F' as' H ∧ Wd K C F' as' cs' H ∧ ¬ inA as' L ∧ F' L = none ∧ H L = some (.lst xs) ∧ DpAll K F' xs acc,
    ⟨items.length, by omega, [], [], cs1, F1, as1, h0, Nat.le_refl 0, sL, w1.out hLA hL1 trivial, hLA, hL1, upd_same, .nil⟩, ?_⟩
  rintro i mm H ⟨him, acc, xs, cs', F', as', hI, hal, sI, wI, nA, nF, hx, hxs⟩
  cases mm with
  | zero =>
    have hi : i = items.length := by omega
    subst hi
    refine .inl ⟨src.stop F' as' cs' H (hok _ _ _ hI) sI wI, ?_⟩
    have w2 := wI.adopt nA nF hx trivial (c := .l acc) (.l hx hxs)
    refine z _ _ _ F' _ H (hend acc cs' hI) ?_ w2 (.cel (r := []) ?_)
    · have sI' : Stp as1.length F1 as1 H1 F' as' H := sI.weak (by rw [w1.len]; exact Nat.le_refl _)
      have t := s1.tr sI'
      refine ⟨t.f, fun i hi own ho => ?_, t.fr, t.dm, t.nf, fun b ⟨i, own, hi, hb⟩ => ?_⟩
      · obtain ⟨r, hr⟩ := t.a i hi own ho
        exact ⟨r, by rw [List.getElem?_append_left (List.getElem?_eq_some_iff.mp hr).1]; exact hr⟩
      · rcases get_snoc hi with hi | ⟨rfl, rfl⟩
        · exact t.na b ⟨i, own, hi, hb⟩
        · rw [List.mem_singleton.mp hb]; exact .inr (s1.dm L hL)
    · rw [← wI.len, List.getElem?_append_right (Nat.le_refl _)]; simp
  | succ mm =>
    obtain ⟨y, hy⟩ : ∃ y, items[i]? = some y := ⟨_, List.getElem?_eq_getElem (by omega)⟩
    obtain ⟨hgo, hy2⟩ := src.turn i y F' as' cs' H hy (hok _ _ _ hI) sI wI
    refine .inr ⟨hgo, fun H' => (i + 1) + mm = items.length ∧ ∃ acc xs cs' F' as', Iv (i + 1) acc cs' ∧ acc.length ≤ i + 1 ∧ Stp cs1.length F1 as1 H1 F' as' H' ∧ Wd K C F' as' cs' H' ∧ ¬ inA as' L ∧ F' L = none ∧ H' L = some (.lst xs) ∧ DpAll K F' xs acc, fun H' h => ⟨mm, by omega, h⟩, fun x H2 hx2 => ?_⟩
    obtain ⟨F2, s2, w2, r2⟩ := hy2 x H2 hx2
    have hmI : cs1.length ≤ as'.length := sI.len (by rw [w1.len]; exact Nat.le_refl _)
    -- the outer list through a step
    have keepL : ∀ {F3 as3 H3}, Stp as'.length F' as' H F3 as3 H3 → ¬ inA as3 L ∧ F3 L = none ∧ H3 L = some (.lst xs) := fun {F3 as3 H3} t =>
      ⟨fun q => (t.na L q).elim nA fun q => by (rw [hx] at q; cases q), nonF t nF hx, t.fr L _ hx nA⟩
    have eI : EnvR K C F2 as' (wipeE E vs) (wipe σ vs) := ⟨e1.len, fun i x h => by
      obtain ⟨v, g1, g2⟩ := e1.get i x h
      refine ⟨v, g1, (g2.mono sI.f ?_).mono s2.f s2.pre⟩
      intro i own ho
      exact sI.a i (by rw [← w1.len]; exact (List.getElem?_eq_some_iff.mp ho).1) own ho⟩
    refine hstep i y acc cs' hy hI F2 as' H2 _ _ x _ w2 eI r2 wipe_wipe fun E3 σ3 h3 e3 hw3 => ⟨hw3, ?_⟩
    refine h3 F2 as' H2 σ3 _ w2 e3 fun b cs3 F3 as3 H3 h4 s3 w3 => ?_
    have s13 := s2.tr s3
    cases b with
    | false =>
      obtain ⟨ms, j, _, hj, _, hc, hp⟩ := h4
      obtain ⟨q1, q2, q3⟩ := keepL s13
      refine ⟨by omega, acc, xs, cs3.take j, F3, as3.take j, hp, by omega, ((sI.trans (s13.weak hmI)).cut hj), w3.cut (fun c hc' => ltC_get hc hc'), fun ⟨i, own, hi, hb⟩ => q1 ⟨i, own, (get_take hi).1, hb⟩, q2, q3, (s13.f).dpAll hxs⟩
    | true =>
      refine h4 F3 as3 H3 σ3 _ w3 (e3.mono s3.f s3.pre) fun zv cs4 v F4 as4 H4 ⟨dd, hz, h5⟩ s4 w4 r4 => ?_
      subst hz
      cases r4 with | d r4 =>
      have s14 := s13.tr s4
      obtain ⟨q1, q2, q3⟩ := keepL s14
      have hxl := hxs.length
      obtain ⟨ms, j, _, hj, _, hc, hp⟩ := h5
      have w5 := w4.cut (n := j) (fun c hc' => ltC_get hc hc')
      have q1' : ¬ inA (as4.take j) L := fun ⟨i, own, hi, hb⟩ => q1 ⟨i, own, (get_take hi).1, hb⟩
      refine ⟨xs, q3, line_lt (by omega), by omega, acc ++ [dd], _, cs4.take j, F4, as4.take j, hp, by rw [List.length_append]; simp; omega, ?_, w5.out q1' q2 trivial, q1', q2, upd_same, (s14.f.dpAll hxs).snoc r4⟩
      have t := (sI.trans (s14.weak hmI)).cut hj
      exact ⟨t.f, t.a, fun b o h n => by
        have nz : b ≠ L := fun q => by rw [q, hL] at h; cases h
        rw [upd_ne nz]; exact t.fr b o h n, fun b h => t.dm b (Wd.newF.updN0 h).2, t.nf, t.na⟩
end
end Y

/-! # Pure states: calls -/
namespace Y
open PySem L2
def rho (is : List Nat) (N : Nat) (j : Nat) : Nat := match is[j]? with
  | some i => i
  | none => N + (j - is.length)
def putC {α : Type} : List α → List Nat → List α → List α
  | xs, [], ys => xs ++ ys
  | xs, i :: is, y :: ys => putC (xs.set i y) is ys
  | xs, _ :: _, [] => xs
theorem putC_len {α : Type} : ∀ {is : List Nat} {xs ys : List α}, is.length ≤ ys.length → (putC xs is ys).length = xs.length + (ys.length - is.length)
  | [], xs, ys, _ => by simp [putC]
  | i :: is, xs, y :: ys, h => by
    rw [putC, putC_len (by simpa using h)]; simp
  | i :: is, xs, [], h => by simp at h
theorem putC_off {α : Type} : ∀ {is : List Nat} {xs ys : List α} {i : Nat}, is.length ≤ ys.length → i ∉ is → i < xs.length → (putC xs is ys)[i]? = xs[i]?
  | [], xs, ys, i, _, _, h => by rw [putC, List.getElem?_append_left h]
  | j :: is, xs, y :: ys, i, hl, hn, h => by
    rw [putC, putC_off (by simpa using hl) (fun z => hn (List.mem_cons_of_mem j z)) (by simpa using h), List.getElem?_set, if_neg (fun z => hn (by simp [z]))]
  | j :: is, xs, [], i, hl, _, _ => by simp at hl
theorem putC_at {α : Type} : ∀ {is : List Nat} {xs ys : List α} {i j : Nat}, is.length ≤ ys.length → is.Nodup → is[j]? = some i → (∀ i ∈ is, i < xs.length) → (putC xs is ys)[i]? = ys[j]?
  | i :: is, xs, y :: ys, _, 0, hl, hn, h, hb => by
    simp at h; subst h
    have h1 := List.nodup_cons.mp hn
    rw [putC, putC_off (by simpa using hl) h1.1 (by simpa using hb i (by simp)), List.getElem?_set, if_pos rfl, if_pos (hb i (by simp))]; rfl
  | i0 :: is, xs, y :: ys, i, j + 1, hl, hn, h, hb => by
    have h1 := List.nodup_cons.mp hn
    rw [putC, putC_at (j := j) (by simpa using hl) h1.2 (by simpa using h) (fun i hi => by simpa using hb i (List.mem_cons_of_mem i0 hi))]; rfl
  | i :: is, xs, [], _, _, hl, _, _, _ => by simp at hl
  | [], _, _, _, _, _, _, h, _ => by simp at h
theorem putC_new {α : Type} : ∀ {is : List Nat} {xs ys : List α} {t : Nat}, is.length ≤ ys.length → (putC xs is ys)[xs.length + t]? = ys[is.length + t]?
  | [], xs, ys, t, _ => by rw [putC, List.getElem?_append_right (by omega)]; congr 1; simp
  | i :: is, xs, y :: ys, t, hl => by
    have := putC_new (is := is) (xs := xs.set i y) (ys := ys) (t := t) (by simpa using hl)
    rw [List.length_set] at this
    rw [putC, this, List.length_cons, show is.length + 1 + t = (is.length + t) + 1 by omega, List.getElem?_cons_succ]
  | i :: is, xs, [], t, hl => by simp at hl
section
variable {K : PySem.W.Frag} {C : Addr} {F F' H H' : Hp} {as as' : Own} {cs cs' cs1 : List Cell} {E : AEnv} {tas : TA}
/-! ### contracts -/
abbrev ASp := List AV → List Cell → (AV → List Cell → Prop) → Prop
def spA (K : PySem.W.Frag) (C : Addr) (A : ASp) : Sp := fun vs H Q _ => ∃ F as cs xs k, Wd K C F as cs H ∧ ARs K C F as xs vs ∧ A xs cs k ∧
  ∀ r cs' v F' as' H', k r cs' → Stp as.length F as H F' as' H' → Wd K C F' as' cs' H' → AR K C F' as' r v → Q v H'
/-- a call: is are the cells that go along, zs the arguments and cz the cells in the callee's numbers -/
structure CallOk (is : List Nat) (zs : List AV) (cz : List Cell) (xs : List AV) (cs : List Cell) : Prop where
  nd : is.Nodup
  lt : ∀ i ∈ is, i < cs.length
  args : AV.renAll (rho is cs.length) zs = xs
  al : AV.ltAll is.length zs = true
  cells : is.map (fun i => cs[i]?) = cz.map (fun c => some (c.ren (rho is cs.length)))
  cl : ltC is.length cz = true
/-- a callee's world, and back -/
theorem call_back {is : List Nat} {zs xs : List AV} {cz : List Cell} {vs : List V} (ok : CallOk is zs cz xs cs) (w : Wd K C F as cs H) (r : ARs K C F as xs vs) :
    ∃ sel : Own, Wd K C F sel cz H ∧ ARs K C F sel zs vs ∧ ∀ (F' : Hp) (as' : Own) (H' : Hp) (cz' : List Cell), Stp sel.length F sel H F' as' H' → Wd K C F' as' cz' H' →
      ∃ asN : Own, Stp as.length F as H F' asN H' ∧ Wd K C F' asN (putC cs is (cz'.map (Cell.ren (rho is cs.length)))) H' ∧ ∀ (y : AV) (v : V), AR K C F' as' y v → AR K C F' asN (y.ren (rho is cs.length)) v := by
  have hlen : cz.length = is.length := by have := congrArg List.length ok.cells; simpa using this.symm
  have hlt : ∀ i ∈ is, i < as.length := fun i hi => by rw [w.len]; exact ok.lt i hi
  -- the callee's addresses
  obtain ⟨sel, hs⟩ : ∃ sel : Own, sel = is.map fun i => as.getD i [] := ⟨_, rfl⟩
  have hsl : sel.length = is.length := by rw [hs, List.length_map]
  have getD_eq : ∀ i, i < as.length → as[i]? = some (as.getD i []) := fun i hi => by rw [List.getD_eq_getElem?_getD, List.getElem?_eq_getElem hi]; rfl
  have hsel : ∀ (j : Nat) own, sel[j]? = some own → ∃ i, is[j]? = some i ∧ as[i]? = some own := fun j own h => by
    rw [hs, List.getElem?_map] at h
    obtain ⟨i, h1, h2⟩ := Option.map_eq_some_iff.mp h
    exact ⟨i, h1, by rw [getD_eq i (hlt i (List.mem_of_getElem? h1)), h2]⟩
  have rlo : ∀ {j i : Nat}, is[j]? = some i → rho is cs.length j = i := fun h => by unfold rho; rw [h]
  have rhi : ∀ {j : Nat}, is.length ≤ j → rho is cs.length j = cs.length + (j - is.length) := fun h => by unfold rho; rw [List.getElem?_eq_none h]
  have rsel : ∀ (j : Nat), j < is.length → as[rho is cs.length j]? = sel[j]? := fun j hj => by
    have e1 : is[j]? = some is[j] := List.getElem?_eq_getElem hj
    rw [rlo e1, getD_eq _ (hlt _ (List.getElem_mem hj)), hs, List.getElem?_map, e1]; rfl
  have inj : ∀ {j j' i : Nat}, is[j]? = some i → is[j']? = some i → j = j' := fun {j j' i} h1 h2 => by
    obtain ⟨b1, e1⟩ := List.getElem?_eq_some_iff.mp h1
    obtain ⟨b2, e2⟩ := List.getElem?_eq_some_iff.mp h2
    exact (List.getElem_inj (h₀ := b1) (h₁ := b2) ok.nd).mp (e1.trans e2.symm)
  have hwd : Wd K C F sel cz H := by
    refine ⟨w.fro, fun j own hj => ?_, fun j j' own own' hj hj' hne => ?_, fun j own hj => ?_, by rw [hsl, hlen], fun j own c hj hc => ?_, fun j own hj => ?_, w.tp⟩
    · obtain ⟨i, _, h2⟩ := hsel j own hj
      exact w.dis i own h2
    · obtain ⟨i, h1, h2⟩ := hsel j own hj
      obtain ⟨i', h1', h2'⟩ := hsel j' own' hj'
      exact w.sep i i' own own' h2 h2' fun z => hne (inj h1 (z ▸ h1'))
    · obtain ⟨i, _, h2⟩ := hsel j own hj
      exact w.nd i own h2
    · obtain ⟨i, h1, h2⟩ := hsel j own hj
      have hc2 : cs[i]? = some (c.ren (rho is cs.length)) := by
        have := congrArg (fun l => l[j]?) ok.cells
        simp only [List.getElem?_map, h1, hc, Option.map_some] at this
        exact Option.some.inj this
      exact CellOk.unren rsel (ltC_get ok.cl (List.mem_of_getElem? hc)) (w.ok i own _ h2 hc2)
    · obtain ⟨i, _, h2⟩ := hsel j own hj
      exact w.mu i own h2
  refine ⟨sel, hwd, ARs.unren rsel ok.al (by rw [ok.args]; exact r), fun F' as' H' cz' s w' => ?_⟩
  have hl' : is.length ≤ as'.length := by rw [← hsl]; exact s.pre.len
  have hlc : is.length ≤ (cz'.map (Cell.ren (rho is cs.length))).length := by rw [List.length_map, ← w'.len]; exact hl'
  -- the caller's addresses behind the call
  have gsel : ∀ {i j : Nat}, is[j]? = some i → (putC as is as')[i]? = as'[j]? := fun h => putC_at hl' ok.nd h hlt
  have goff : ∀ {i : Nat}, i ∉ is → i < as.length → (putC as is as')[i]? = as[i]? := fun h1 h2 => putC_off hl' h1 h2
  have gnew : ∀ {t : Nat}, (putC as is as')[as.length + t]? = as'[is.length + t]? := putC_new hl'
  have plen : (putC as is as').length = as.length + (as'.length - is.length) := putC_len hl'
  -- what stands at an index
  have cases_at : ∀ (i : Nat) own, (putC as is as')[i]? = some own → (i ∉ is ∧ as[i]? = some own) ∨ ∃ j, as'[j]? = some own ∧ rho is cs.length j = i := fun i own h => by
    by_cases hi : i < as.length
    · by_cases hm : i ∈ is
      · obtain ⟨j, hj⟩ := List.mem_iff_getElem?.mp hm
        rw [gsel hj] at h
        exact .inr ⟨j, h, rlo hj⟩
      · rw [goff hm hi] at h; exact .inl ⟨hm, h⟩
    · have e1 : i = as.length + (i - as.length) := by omega
      rw [e1, gnew] at h
      exact .inr ⟨_, h, by rw [rhi (by omega), ← w.len]; omega⟩
  have at_new : ∀ (j : Nat) own, as'[j]? = some own → (putC as is as')[rho is cs.length j]? = some own := fun j own h => by
    by_cases hj : j < is.length
    · have e1 : is[j]? = some is[j] := List.getElem?_eq_getElem hj
      rw [rlo e1, gsel e1]; exact h
    · rw [rhi (by omega), ← w.len, gnew, show is.length + (j - is.length) = j by omega]; exact h
  have cell_at : ∀ {j : Nat} {c : Cell}, (putC cs is (cz'.map (Cell.ren (rho is cs.length))))[rho is cs.length j]? = some c → ∃ c', cz'[j]? = some c' ∧ c = c'.ren (rho is cs.length) := fun {j c} h => by
    have e : (putC cs is (cz'.map (Cell.ren (rho is cs.length))))[rho is cs.length j]? = (cz'.map (Cell.ren (rho is cs.length)))[j]? := by
      by_cases hj : j < is.length
      · have e1 : is[j]? = some is[j] := List.getElem?_eq_getElem hj
        rw [rlo e1, putC_at hlc ok.nd e1 ok.lt]
      · rw [rhi (by omega), putC_new hlc, show is.length + (j - is.length) = j by omega]
    rw [e, List.getElem?_map] at h
    obtain ⟨c', h1, h2⟩ := Option.map_eq_some_iff.mp h
    exact ⟨c', h1, h2.symm⟩
  have rinj : ∀ {j j' : Nat}, rho is cs.length j = rho is cs.length j' → j = j' := fun {j j'} h => by
    by_cases hj : j < is.length <;> by_cases hj' : j' < is.length
    · have e1 : is[j]? = some is[j] := List.getElem?_eq_getElem hj
      have e2 : is[j']? = some is[j'] := List.getElem?_eq_getElem hj'
      rw [rlo e1, rlo e2] at h
      rw [h] at e1
      exact inj e1 e2
    · have e1 : is[j]? = some is[j] := List.getElem?_eq_getElem hj
      have := ok.lt _ (List.getElem_mem hj)
      rw [rlo e1, rhi (by omega)] at h; omega
    · have e1 : is[j']? = some is[j'] := List.getElem?_eq_getElem hj'
      have := ok.lt _ (List.getElem_mem hj')
      rw [rlo e1, rhi (by omega)] at h; omega
    · rw [rhi (by omega), rhi (by omega)] at h; omega
  have inSel : ∀ b, inA sel b → inA as b := fun b ⟨j, own, hj, hb⟩ => by
    obtain ⟨i, _, h2⟩ := hsel j own hj
    exact ⟨i, own, h2, hb⟩
  -- an address of a cell that did not go along
  have offSel : ∀ {i : Nat} {own : List Addr}, i ∉ is → as[i]? = some own → ∀ b ∈ own, ¬ inA sel b := fun hi ho b hb ⟨j, own', hj, hb'⟩ => by
    obtain ⟨i', h1, h2⟩ := hsel j own' hj
    exact w.sep _ i' _ own' ho h2 (fun z => hi (z ▸ List.mem_of_getElem? h1)) b hb hb'
  have offNew : ∀ {i : Nat} {own : List Addr}, i ∉ is → as[i]? = some own → ∀ b ∈ own, ¬ inA as' b := fun hi ho b hb z => (s.na b z).elim (offSel hi ho b hb) (w.dis _ _ ho b hb).2
  have offH : ∀ {i : Nat} {own : List Addr}, i ∉ is → as[i]? = some own → ∀ b ∈ own, ∃ o, H b = some o ∧ H' b = some o := fun hi ho b hb => by
    cases e : H b with
    | none => exact absurd e (w.dis _ _ ho b hb).2
    | some o => exact ⟨o, rfl, s.fr b o e (offSel hi ho b hb)⟩
  have pre : Pre as (putC as is as') := fun i own ho => by
    by_cases hm : i ∈ is
    · obtain ⟨j, hj⟩ := List.mem_iff_getElem?.mp hm
      have hj' : sel[j]? = some own := by rw [← rsel j (List.getElem?_eq_some_iff.mp hj).1, rlo hj]; exact ho
      obtain ⟨t, ht⟩ := s.pre j own hj'
      exact ⟨t, by rw [gsel hj]; exact ht⟩
    · exact ⟨[], by rw [goff hm (List.getElem?_eq_some_iff.mp ho).1, List.append_nil]; exact ho⟩
  refine ⟨putC as is as', ⟨s.f, fun i _ own ho => pre i own ho, fun b o h n => s.fr b o h fun z => n (inSel b z), s.dm, s.nf, fun b ⟨i, own, hi, hb⟩ => ?_⟩,
    ⟨w'.fro, fun i own hi b hb => ?_, fun i i' own own' hi hi' hne b hb => ?_, fun i own hi => ?_, ?_, fun i own c hi hc => ?_, fun i own hi b hb o ho => ?_, w'.tp⟩, fun y v r' => r'.ren at_new⟩
  · rcases cases_at i own hi with ⟨_, h2⟩ | ⟨j, h2, _⟩
    · exact .inl ⟨i, own, h2, hb⟩
    · exact (s.na b ⟨j, own, h2, hb⟩).imp (inSel b) id
  · rcases cases_at i own hi with ⟨h1, h2⟩ | ⟨j, h2, _⟩
    · obtain ⟨o, e1, e2⟩ := offH h1 h2 b hb
      refine ⟨?_, by rw [e2]; simp⟩
      cases e : F' b with
      | none => rfl
      | some u =>
        rcases s.nf b u e with z | z
        · rw [(w.dis i own h2 b hb).1] at z; cases z
        · rw [e1] at z; cases z
    · exact w'.dis j own h2 b hb
  · rcases cases_at i own hi with ⟨h1, h2⟩ | ⟨j, h2, e⟩ <;> rcases cases_at i' own' hi' with ⟨h1', h2'⟩ | ⟨j', h2', e'⟩
    · exact w.sep i i' own own' h2 h2' hne b hb
    · exact fun z => offNew h1 h2 b hb ⟨j', own', h2', z⟩
    · exact fun z => offNew h1' h2' b z ⟨j, own, h2, hb⟩
    · exact w'.sep j j' own own' h2 h2' (fun z => hne (by rw [← e, ← e', z])) b hb
  · rcases cases_at i own hi with ⟨h1, h2⟩ | ⟨j, h2, _⟩
    · exact w.nd i own h2
    · exact w'.nd j own h2
  · rw [plen, putC_len hlc, List.length_map, w.len, w'.len]
  · rcases cases_at i own hi with ⟨h1, h2⟩ | ⟨j, h2, e⟩
    · have hi2 : i < cs.length := by rw [← w.len]; exact (List.getElem?_eq_some_iff.mp h2).1
      rw [putC_off hlc h1 hi2] at hc
      refine (w.ok i own c h2 hc).mono s.f pre fun b hb o ho => ?_
      obtain ⟨o', e1, e2⟩ := offH h1 h2 b hb
      rw [e1] at ho; cases ho; exact e2
    · subst e
      obtain ⟨c', h3, rfl⟩ := cell_at hc
      exact (w'.ok j own c' h2 h3).ren at_new
  · rcases cases_at i own hi with ⟨h1, h2⟩ | ⟨j, h2, _⟩
    · obtain ⟨o', e1, e2⟩ := offH h1 h2 b hb
      rw [e2] at ho; cases ho
      exact w.mu i own h2 b hb _ e1
    · exact w'.mu j own h2 b hb o ho
theorem call_core {A : ASp} {is : List Nat} {zs xs : List AV} {cz : List Cell} {k : AV → List Cell → Prop} {vs : List V} {Q : VK} (ok : CallOk is zs cz xs cs) (w : Wd K C F as cs H) (r : ARs K C F as xs vs)
    (hA : A zs cz fun y cz' => k (y.ren (rho is cs.length)) (putC cs is (cz'.map (Cell.ren (rho is cs.length))))) (q : Kt K C F as H k Q) {X : XK} : spA K C A vs H Q X := by
  obtain ⟨sel, hwd, hr, back⟩ := call_back ok w r
  refine ⟨F, sel, cz, zs, _, hwd, hr, hA, fun y cz' v F' as' H' hk s w' r' => ?_⟩
  obtain ⟨asN, s1, w1, a1⟩ := back F' as' H' cz' s w'
  exact q _ _ v F' asN H' hk s1 w1 (a1 y v r')
theorem ev_call {A : ASp} {k : AV → List Cell → Prop} {X : XK} (h : Evs K C E cs tas fun xs cs1 => ∃ is zs cz, CallOk is zs cz xs cs1 ∧ A zs cz fun y cz' => k (y.ren (rho is cs1.length)) (putC cs1 is (cz'.map (Cell.ren (rho is cs1.length))))) :
    Ev K C E cs (tCall (spA K C A) [] X tas) k := fun F as H σ Q w e z => by
  refine h F as H σ _ w e fun xs cs1 vs F1 as1 H1 ⟨is, zs, cz, ok, hA⟩ s1 w1 r1 => ?_
  show spA K C A (vs ++ []) H1 Q X
  rw [List.append_nil]
  exact call_core ok w1 r1 hA (Kt.later z s1)
/-- a call with data alone -/
theorem ev_callD {A : ASp} {k : AV → List Cell → Prop} {X : XK} (h : Evs K C E cs tas fun xs cs1 => ∃ ds, unD xs = some ds ∧ A (ds.map AV.d) [] fun y cz' => k (y.ren (rho [] cs1.length)) (putC cs1 [] (cz'.map (Cell.ren (rho [] cs1.length))))) :
    Ev K C E cs (tCall (spA K C A) [] X tas) k := ev_call fun F as H σ Q w e z => h F as H σ Q w e fun xs cs1 v F' as' H' ⟨ds, hd, hA⟩ => z xs cs1 v F' as' H' ⟨[], ds.map AV.d, [], ⟨List.nodup_nil, fun i hi => absurd hi (List.not_mem_nil), by
    rw [unD_eq hd, renAll_map, List.map_map]; rfl, by
    clear hA hd
    induction ds with
    | nil => rfl
    | cons d ds ih => simpa [AV.ltAll, AV.lt] using ih, rfl, rfl⟩, hA⟩
/-! ### a body -/
def startE (N : List Str) (xs : List AV) : AEnv := xs.map some ++ List.replicate (N.length - xs.length) none
theorem EnvR.start {N : List Str} {xs : List AV} {vs : List V} (r : ARs K C F as xs vs) : EnvR K C F as (startE N xs) (L2.start N vs) := by
  have hl := r.length
  refine ⟨by simp [startE, L2.start, hl], fun i x h => ?_⟩
  unfold startE at h
  by_cases hi : i < xs.length
  · rw [List.getElem?_append_left (by simpa using hi), List.getElem?_map] at h
    obtain ⟨y, h1, h2⟩ := Option.map_eq_some_iff.mp h
    cases h2
    obtain ⟨v, h3, h4⟩ := r.get h1
    exact ⟨v, by unfold L2.start; rw [List.getElem?_append_left (by rw [List.length_map, ← hl]; exact hi), List.getElem?_map, h3]; rfl, h4⟩
  · rw [List.getElem?_append_right (by simpa using hi)] at h
    rw [List.getElem?_replicate] at h
    split at h <;> cases h
theorem body_ok {N : List Str} {xs : List AV} {vs : List V} {t : TS} {k : AV → List Cell → Prop} {Q : VK} (w : Wd K C F as cs H) (r : ARs K C F as xs vs) (hx : Ex K C cs.length (startE N xs) cs t { nx := fun _ cs' => k (.d .none) cs', rt := k })
    (q : ∀ r cs' v F' as' H', k r cs' → Stp as.length F as H F' as' H' → Wd K C F' as' cs' H' → AR K C F' as' r v → Q v H') : t { nx := fun _ H' => Q .non H', rt := Q } (L2.start N vs) H := by
  refine hx F as H _ _ (Nat.le_refl _) w (EnvR.start r) ⟨fun E' cs' F' as' H' σ h s w' _ => q _ cs' _ F' as' H' h (s.weak (by rw [w.len]; exact Nat.le_refl _)) w' (.d .non), fun x cs' F' as' H' v h s w' r' => q x cs' v F' as' H' h (s.weak (by rw [w.len]; exact Nat.le_refl _)) w' r', fun _ _ _ _ _ _ h => h.elim, fun _ _ _ _ _ _ h => h.elim, fun _ _ _ _ _ _ _ _ _ h => h.elim⟩
theorem spA_len {A : ASp} {l : Nat} (h : ∀ xs cs k, A xs cs k → xs.length = l) {vs : List V} {H : Hp} {Q : VK} {X : XK} (g : spA K C A vs H Q X) : vs.length = l := by
  obtain ⟨F, as, cs, xs, k, _, r, hA, _⟩ := g
  rw [← r.length]; exact h _ _ _ hA
end
end Y

/-! # Pure states: operations -/
namespace Y
open PySem L2
section
variable {K : PySem.W.Frag} {C : Addr} {F F' H H' : Hp} {as as' : Own} {cs cs' cs1 : List Cell} {E : AEnv} {k : AV → List Cell → Prop} {ta tb te tc : TE} {tas tar : TA} {x y : AV}
/-! ### views -/
def lstOf (x : AV) (cs : List Cell) : Option (List PyData) := match x with
  | .d (.list ds) => some ds
  | .cel i => match cs[i]? with
    | some (.l ds) => some ds
    | _ => none
  | .sub i j => match cs[i]? with
    | some (.g _ rows) => rows[j]?
    | some (.m _ _ rows) => rows[j]?
    | _ => none
  | _ => none
def tupOf (x : AV) : Option (List PyData) := match x with
  | .d (.tuple ds) => some ds
  | _ => none
def datOf (x : AV) (cs : List Cell) : Option PyData := match x with
  | .d d => some d
  | .cel i => match cs[i]? with
    | some (.l ds) => some (.list ds)
    | _ => none
  | _ => none
theorem lstOf_at {ds : List PyData} {v : V} (h : lstOf x cs = some ds) (w : Wd K C F as cs H) (r : AR K C F as x v) : ∃ p xs, v = .ref p ∧ SqL K H p xs ∧ DpAll K F xs ds := by
  cases x with
  | d d =>
    cases r with | d r =>
    cases d with
    | list es =>
      simp [lstOf] at h; subst h
      obtain ⟨p, xs, rfl, h1, h2⟩ := r.lst_inv
      exact ⟨p, xs, rfl, h1.same w.fro, h2⟩
    | _ => simp [lstOf] at h
  | cel i =>
    cases r with | cel hp =>
    simp only [lstOf] at h
    cases e : cs[i]? with
    | none => rw [e] at h; cases h
    | some c =>
      rw [e] at h
      cases c with
      | l es =>
        simp at h; subst h
        obtain ⟨_, vs, h1, h2⟩ := w.lst hp e
        exact ⟨_, vs, rfl, SqL.of h1, h2⟩
      | _ => simp at h
  | sub i j =>
    cases r with | @sub _ _ q own hi hj =>
    simp only [lstOf] at h
    cases e : cs[i]? with
    | none => rw [e] at h; cases h
    | some c =>
      rw [e] at h
      have hc := w.ok i _ _ hi e
      cases hc with
      | g h1 h2 h3 =>
        obtain ⟨vs, g1, g2⟩ := h3.get (by simpa using hj) h
        exact ⟨_, vs, rfl, SqL.of g1, g2⟩
      | m h1 h2 h3 =>
        obtain ⟨vs, g1, g2⟩ := h3.get (by simpa using hj) h
        exact ⟨_, vs, rfl, SqL.of g1, g2⟩
      | _ => simp at h
  | _ => simp [lstOf] at h
theorem tupOf_at {ds : List PyData} {v : V} (h : tupOf x = some ds) (w : Wd K C F as cs H) (r : AR K C F as x v) : ∃ p xs, v = .ref p ∧ SqT K H p xs ∧ DpAll K F xs ds ∧ Dp K F v (.tuple ds) := by
  cases x with
  | d d =>
    cases r with | d r =>
    cases d with
    | tuple es =>
      simp [tupOf] at h; subst h
      obtain ⟨p, xs, rfl, h1, h2⟩ := r.tup_inv
      exact ⟨p, xs, rfl, w.fro.sqT h1, h2, r⟩
    | _ => simp [tupOf] at h
  | _ => simp [tupOf] at h
theorem datOf_at {d : PyData} {v : V} (h : datOf x cs = some d) (w : Wd K C F as cs H) (r : AR K C F as x v) : Dp K H v d := by
  cases x with
  | d e => simp [datOf] at h; subst h; cases r with | d r => exact w.fro.dp r
  | cel i =>
    cases r with | cel hp =>
    simp only [datOf] at h
    cases e : cs[i]? with
    | none => rw [e] at h; cases h
    | some c =>
      rw [e] at h
      cases c with
      | l es =>
        simp at h; subst h
        obtain ⟨_, vs, h1, h2⟩ := w.lst hp e
        exact .lstOf h1 (w.fro.dpAll h2)
      | _ => simp at h
  | _ => simp [datOf] at h
theorem AR.int {i : Int} {v : V} (r : AR K C F as (.d (.int i)) v) : v = .int i := by cases r with | d r => exact r.int_inv
theorem AR.str {i : Str} {v : V} (r : AR K C F as (.d (.str i)) v) : v = .str i := by cases r with | d r => exact r.str_inv
/-! ### two places -/
theorem o_int {f : Int → Int → Int} {i j : Int} (h : k (.d (.int (f i j))) cs) : O2 K C (rI0 fun i j => .int (f i j)) (.d (.int i)) (.d (.int j)) cs k := fun F as H v u Q w r1 r2 q => ⟨i, j, r1.int, r2.int, q.now h w (.d (.int _))⟩
theorem o_bl {f : Int → Int → Bool} {i j : Int} (h : k (.d (.bool (f i j))) cs) : O2 K C (rI0 fun i j => .bl (f i j)) (.d (.int i)) (.d (.int j)) cs k := fun F as H v u Q w r1 r2 q => ⟨i, j, r1.int, r2.int, q.now h w (.d (.bl _))⟩
theorem o_intC {P : Int → Int → Prop} {f : Int → Int → Int} {i j : Int} (hc : P i j) (h : k (.d (.int (f i j))) cs) : O2 K C (rI P fun i j => .int (f i j)) (.d (.int i)) (.d (.int j)) cs k := fun F as H v u Q w r1 r2 q => ⟨i, j, r1.int, r2.int, hc, q.now h w (.d (.int _))⟩
def scV : PyData → Option V
  | .int i => some (.int i)
  | .str s => some (.str s)
  | .bool b => some (.bl b)
  | .none => some .non
  | _ => none
theorem scV_at {d : PyData} {u v : V} (h : scV d = some u) (r : AR K C F as (.d d) v) : v = u := by
  cases r with | d r =>
  cases r <;> simp [scV] at h <;> exact h
theorem o_eq {a b : PyData} {u1 u2 : V} (h1 : scV a = some u1) (h2 : scV b = some u2) (hs : scal u1 u2 = true) (h : k (.d (.bool (decide (u1 = u2)))) cs) : O2 K C rEq (.d a) (.d b) cs k := fun F as H v u Q w r1 r2 q => by
  rw [scV_at h1 r1, scV_at h2 r2]; exact ⟨hs, q.now h w (.d (.bl _))⟩
theorem o_ne {a b : PyData} {u1 u2 : V} (h1 : scV a = some u1) (h2 : scV b = some u2) (hs : scal u1 u2 = true) (h : k (.d (.bool (!decide (u1 = u2)))) cs) : O2 K C rNe (.d a) (.d b) cs k := fun F as H v u Q w r1 r2 q => by
  rw [scV_at h1 r1, scV_at h2 r2]; exact ⟨hs, q.now h w (.d (.bl _))⟩
theorem o_eqD {a b : PyData} (h1 : datOf x cs = some a) (h2 : datOf y cs = some b) (s1 : SeqAt.shaped a = true) (s2 : SeqAt.shaped b = true) (h : k (.d (.bool (PyData.eqv a b))) cs) : O2 K C (rEqD K) x y cs k := fun F as H v u Q w r1 r2 q =>
  ⟨a, b, datOf_at h1 w r1, datOf_at h2 w r2, s1, s2, q.now h w (.d (.bl _))⟩
theorem o_neD {a b : PyData} (h1 : datOf x cs = some a) (h2 : datOf y cs = some b) (s1 : SeqAt.shaped a = true) (s2 : SeqAt.shaped b = true) (h : k (.d (.bool (!PyData.eqv a b))) cs) : O2 K C (rNeD K) x y cs k := fun F as H v u Q w r1 r2 q =>
  ⟨a, b, datOf_at h1 w r1, datOf_at h2 w r2, s1, s2, q.now h w (.d (.bl _))⟩
theorem o_eqA1 {r : R2} (h : O2 K C rEq x y cs k) : O2 K C (rEqA K) x y cs k := fun F as H v u Q w r1 r2 q => .inl (h F as H v u Q w r1 r2 q)
theorem o_eqA2 (h : O2 K C (rEqD K) x y cs k) : O2 K C (rEqA K) x y cs k := fun F as H v u Q w r1 r2 q => .inr (h F as H v u Q w r1 r2 q)
theorem o_neA1 (h : O2 K C rNe x y cs k) : O2 K C (rNeA K) x y cs k := fun F as H v u Q w r1 r2 q => .inl (h F as H v u Q w r1 r2 q)
theorem o_neA2 (h : O2 K C (rNeD K) x y cs k) : O2 K C (rNeA K) x y cs k := fun F as H v u Q w r1 r2 q => .inr (h F as H v u Q w r1 r2 q)
def isNn : AV → Bool
  | .d .none => true
  | _ => false
theorem isNn_at {v : V} (r : AR K C F as x v) : decide (v = V.non) = isNn x := by
  cases r with
  | d r => cases r <;> simp [isNn]
  | _ => simp [isNn]
theorem o_isN (h : k (.d (.bool (isNn x))) cs) : O2 K C (fun x y H Q => y = .non ∧ Q (.bl (decide (x = .non))) H) x (.d .none) cs k := fun F as H v u Q w r1 r2 q => by
  refine ⟨by cases r2 with | d r2 => exact r2.non_inv, ?_⟩
  rw [isNn_at r1]
  exact q.now h w (.d (.bl _))
theorem o_notN (h : k (.d (.bool (!isNn x))) cs) : O2 K C (fun x y H Q => y = .non ∧ Q (.bl (!decide (x = .non))) H) x (.d .none) cs k := fun F as H v u Q w r1 r2 q => by
  refine ⟨by cases r2 with | d r2 => exact r2.non_inv, ?_⟩
  rw [isNn_at r1]
  exact q.now h w (.d (.bl _))
theorem atI_map {α β : Type} {f : α → β} {l : List α} {i : Int} : atI (l.map f) i = (atI l i).map f := by
  unfold atI
  rw [List.length_map]
  cases ixN l.length i with
  | none => rfl
  | some j => simp [List.getElem?_map]
theorem dp_at : ∀ {xs : List V} {ds : List PyData} {i : Int} {d : PyData}, DpAll K F xs ds → atI ds i = some d → ∃ v, atI xs i = some v ∧ Dp K F v d := fun {xs ds i d} h e => by
  unfold atI at e ⊢
  rw [h.length]
  cases hn : ixN ds.length i with
  | none => rw [hn] at e; cases e
  | some j =>
    rw [hn] at e
    exact h.get e
theorem ar_at {xs : List V} {ys : List AV} {i : Int} {y : AV} (h : ARs K C F as ys xs) (e : atI ys i = some y) : ∃ v, atI xs i = some v ∧ AR K C F as y v := by
  unfold atI at e ⊢
  rw [← h.length]
  cases hn : ixN ys.length i with
  | none => rw [hn] at e; cases e
  | some j =>
    rw [hn] at e
    exact h.get e
theorem o_ixL {ds : List PyData} {i : Int} {d : PyData} (h1 : lstOf x cs = some ds) (h2 : atI ds i = some d) (h : k (.d d) cs) : O2 K C (rIxL K) x (.d (.int i)) cs k := fun F as H v u Q w r1 r2 q => by
  obtain ⟨p, xs, rfl, h3, h4⟩ := lstOf_at h1 w r1
  obtain ⟨z, h5, h6⟩ := dp_at h4 h2
  exact ⟨p, xs, i, z, rfl, r2.int, h3, h5, q.now h w (.d h6)⟩
theorem o_ixA {ys : List AV} {i : Int} {j : Nat} {y : AV} (h1 : cs[j]? = some (.a ys)) (h2 : atI ys i = some y) (h : k y cs) : O2 K C (rIxL K) (.cel j) (.d (.int i)) cs k := fun F as H v u Q w r1 r2 q => by
  cases r1 with | cel hp =>
  obtain ⟨_, vs, h3, h4⟩ := w.lsa hp h1
  obtain ⟨z, h5, h6⟩ := ar_at h4 h2
  exact ⟨_, vs, i, z, rfl, r2.int, SqL.of h3, h5, q.now h w h6⟩
theorem o_ixT {ds : List PyData} {i : Int} {d : PyData} (h1 : tupOf x = some ds) (h2 : atI ds i = some d) (h : k (.d d) cs) : O2 K C (rIxT K) x (.d (.int i)) cs k := fun F as H v u Q w r1 r2 q => by
  obtain ⟨p, xs, rfl, h3, h4, _⟩ := tupOf_at h1 w r1
  obtain ⟨z, h5, h6⟩ := dp_at h4 h2
  exact ⟨p, xs, i, z, rfl, r2.int, h3, h5, q.now h w (.d h6)⟩
theorem o_ixTA {ys : List AV} {i : Int} {y : AV} (h2 : atI ys i = some y) (h : k y cs) : O2 K C (rIxT K) (.tup ys) (.d (.int i)) cs k := fun F as H v u Q w r1 r2 q => by
  cases r1 with | tup h3 h4 =>
  obtain ⟨z, h5, h6⟩ := ar_at h4 h2
  exact ⟨_, _, i, z, rfl, r2.int, w.fro.sqT h3, h5, q.now h w h6⟩
theorem o_ix1 (h : O2 K C (rIxL K) x y cs k) : O2 K C (rIx K) x y cs k := fun F as H v u Q w r1 r2 q => .inl (h F as H v u Q w r1 r2 q)
theorem o_ix2 (h : O2 K C (rIxT K) x y cs k) : O2 K C (rIx K) x y cs k := fun F as H v u Q w r1 r2 q => .inr (.inl (h F as H v u Q w r1 r2 q))
theorem o_inT {d : PyData} {ds : List PyData} (h1 : datOf x cs = some d) (h2 : tupOf y = some ds) (s1 : SeqAt.shaped d = true) (s2 : SeqAt.shaped (.tuple ds) = true) (h : k (.d (.bool (ds.any fun z => PyData.eqv z d))) cs) : O2 K C (rInTD K) x y cs k := fun F as H v u Q w r1 r2 q => by
  obtain ⟨p, xs, rfl, _, _, h4⟩ := tupOf_at h2 w r2
  exact ⟨d, ds, datOf_at h1 w r1, w.fro.dp h4, s1, s2, q.now h w (.d (.bl _))⟩
theorem o_notInT {d : PyData} {ds : List PyData} (h1 : datOf x cs = some d) (h2 : tupOf y = some ds) (s1 : SeqAt.shaped d = true) (s2 : SeqAt.shaped (.tuple ds) = true) (h : k (.d (.bool (!ds.any fun z => PyData.eqv z d))) cs) : O2 K C (rNotInTD K) x y cs k := fun F as H v u Q w r1 r2 q => by
  obtain ⟨p, xs, rfl, _, _, h4⟩ := tupOf_at h2 w r2
  exact ⟨d, ds, datOf_at h1 w r1, w.fro.dp h4, s1, s2, q.now h w (.d (.bl _))⟩
theorem o_inL {d : PyData} {ds : List PyData} (h1 : datOf x cs = some d) (h2 : lstOf y cs = some ds) (s1 : SeqAt.shaped d = true) (s2 : SeqAt.shaped (.list ds) = true) (h : k (.d (.bool (ds.any fun z => PyData.eqv z d))) cs) : O2 K C (rInD K) x y cs k := fun F as H v u Q w r1 r2 q => by
  obtain ⟨p, xs, rfl, h3, h4⟩ := lstOf_at h2 w r2
  exact ⟨d, ds, datOf_at h1 w r1, .lst h3 (w.fro.dpAll h4), s1, s2, q.now h w (.d (.bl _))⟩
theorem o_notInL {d : PyData} {ds : List PyData} (h1 : datOf x cs = some d) (h2 : lstOf y cs = some ds) (s1 : SeqAt.shaped d = true) (s2 : SeqAt.shaped (.list ds) = true) (h : k (.d (.bool (!ds.any fun z => PyData.eqv z d))) cs) : O2 K C (rNotInD K) x y cs k := fun F as H v u Q w r1 r2 q => by
  obtain ⟨p, xs, rfl, h3, h4⟩ := lstOf_at h2 w r2
  exact ⟨d, ds, datOf_at h1 w r1, .lst h3 (w.fro.dpAll h4), s1, s2, q.now h w (.d (.bl _))⟩
/-- what a call finds behind it, where all that is new is frozen -/
theorem Kt.same {Q : VK} (q : Kt K C F as H k Q) (w : Wd K C F as cs H) (s : Same H H') {z : AV} {v : V} (h : k z cs) (r : AR K C (absF F H H') as z v) : Q v H' := by
  obtain ⟨w1, s1⟩ := w.same s
  exact q z cs v _ as H' h s1 w1 r
theorem o_catA {ds es : List PyData} (h1 : tupOf x = some ds) (h2 : tupOf y = some es) (hl : ds.length + es.length ≤ 100000) (h : k (.d (.tuple (ds ++ es))) cs) : O2 K C (rCatA K) x y cs k := fun F as H v u Q w r1 r2 q => by
  obtain ⟨p, xs, rfl, h3, h4, h5⟩ := tupOf_at h1 w r1
  obtain ⟨p', xs', rfl, h3', h4', h5'⟩ := tupOf_at h2 w r2
  refine ⟨p, p', xs, xs', rfl, rfl, h3, h3', line_of (by rw [h4.length, h4'.length]; exact hl), fun e => ?_, fun _ e => ?_, fun _ _ b hb => ?_⟩
  · subst e
    have := h4.length
    cases ds with
    | nil => exact q.now h w (.d h5')
    | cons _ _ => simp at this
  · subst e
    have := h4'.length
    cases es with
    | nil => rw [List.append_nil] at h; exact q.now h w (.d h5)
    | cons _ _ => simp at this
  · exact q.frz w hb h (.d (.tupOf upd_same ((Same.new (w.fro.free hb)).dpAll (h4.append h4'))))
theorem o_cat {i j : Nat} {ds es : List PyData} (h1 : cs[i]? = some (.l ds)) (h2 : cs[j]? = some (.l es)) (hl : ds.length + es.length ≤ 100000) (h : k (.cel cs.length) (cs ++ [.l (ds ++ es)])) : O2 K C rCat (.cel i) (.cel j) cs k := fun F as H v u Q w r1 r2 q => by
  cases r1 with | cel hp =>
  cases r2 with | cel hp' =>
  obtain ⟨_, vs, h3, h4⟩ := w.lst hp h1
  obtain ⟨_, vs', h3', h4'⟩ := w.lst hp' h2
  exact ⟨_, _, vs, vs', rfl, rfl, h3, h3', line_of (by rw [h4.length, h4'.length]; exact hl), fun b hb => q.cell w hb trivial (.l upd_same (h4.append h4')) h⟩
theorem o_catL {i j : Nat} {ds es : List AV} (h1 : cs[i]? = some (.a ds)) (h2 : cs[j]? = some (.a es)) (hl : ds.length + es.length ≤ 100000) (h : k (.cel cs.length) (cs ++ [.a (ds ++ es)])) : O2 K C rCat (.cel i) (.cel j) cs k := fun F as H v u Q w r1 r2 q => by
  cases r1 with | cel hp =>
  cases r2 with | cel hp' =>
  obtain ⟨_, vs, h3, h4⟩ := w.lsa hp h1
  obtain ⟨_, vs', h3', h4'⟩ := w.lsa hp' h2
  exact ⟨_, _, vs, vs', rfl, rfl, h3, h3', line_of (by rw [← h4.length, ← h4'.length]; exact hl), fun b hb => q.cell w hb trivial (.a upd_same ((h4.append h4').mono (Same.refl _) Pre.snoc)) h⟩
theorem dpAll_rep : ∀ (n : Nat) {xs : List V} {ds : List PyData}, DpAll K F xs ds → DpAll K F (List.replicate n xs).flatten (List.replicate n ds).flatten
  | 0, _, _, _ => .nil
  | n + 1, _, _, h => by rw [List.replicate_succ, List.replicate_succ, List.flatten_cons, List.flatten_cons]; exact h.append (dpAll_rep n h)
theorem o_rep {i : Nat} {ds : List PyData} {z : Int} (h1 : cs[i]? = some (.l ds)) (hz1 : -(2 ^ 63) ≤ z) (hz2 : z < 2 ^ 63) (hl : ds.length * z.toNat ≤ 100000) (h : k (.cel cs.length) (cs ++ [.l (List.replicate z.toNat ds).flatten])) : O2 K C rRep (.cel i) (.d (.int z)) cs k := fun F as H v u Q w r1 r2 q => by
  cases r1 with | cel hp =>
  obtain ⟨_, vs, h3, h4⟩ := w.lst hp h1
  exact ⟨_, z, vs, rfl, r2.int, h3, hz1, hz2, line_of (by rw [h4.length]; exact hl), fun b hb => q.cell w hb trivial (.l upd_same (dpAll_rep _ h4)) h⟩
theorem o_neE {ds : List PyData} (h1 : lstOf x cs = some ds) (h2 : lstOf y cs = some []) (h : k (.d (.bool (!ds.isEmpty))) cs) : O2 K C (rNeE K) x y cs k := fun F as H v u Q w r1 r2 q => by
  obtain ⟨p, xs, rfl, h3, h4⟩ := lstOf_at h1 w r1
  obtain ⟨p', xs', rfl, h3', h4'⟩ := lstOf_at h2 w r2
  cases h4'
  refine ⟨p, p', xs, rfl, rfl, h3, h3', ?_⟩
  have e : xs.isEmpty = ds.isEmpty := by have := h4.length; cases xs <;> cases ds <;> simp_all
  rw [e]
  exact q.now h w (.d (.bl _))
/-! ### slices -/
def Evo (K : PySem.W.Frag) (C : Addr) (E : AEnv) (cs : List Cell) (to : TO) (ko : Option Int → List Cell → Prop) : Prop :=
  ∀ (F : Hp) (as : Own) (H : Hp) (σ : St) (Q : Option Int → Hp → Prop), Wd K C F as cs H → EnvR K C F as E σ →
    (∀ b cs' F' as' H', ko b cs' → Stp as.length F as H F' as' H' → Wd K C F' as' cs' H' → Q b H') → to σ H Q
theorem eo_no {ko : Option Int → List Cell → Prop} (h : ko none cs) : Evo K C E cs (fun _ H Q => Q none H) ko := fun F as H σ Q w e z => z none cs F as H h Stp.refl w
theorem eo_part {ko : Option Int → List Cell → Prop} (h : Ev K C E cs te fun x cs1 => IsI x fun i => ko (some i) cs1) : Evo K C E cs (tPart te) ko := fun F as H σ Q w e z => by
  refine h F as H σ _ w e fun x cs1 v F1 as1 H1 ⟨i, hx, h1⟩ s1 w1 r1 => ?_
  subst hx
  exact ⟨i, r1.int, z (some i) cs1 F1 as1 H1 h1 s1 w1⟩
def Osl (K : PySem.W.Frag) (C : Addr) (r : V → Option Int → Option Int → Hp → VK → Prop) (x : AV) (lo hi : Option Int) (cs : List Cell) (k : AV → List Cell → Prop) : Prop :=
  ∀ (F : Hp) (as : Own) (H : Hp) (v : V) (Q : VK), Wd K C F as cs H → AR K C F as x v → Kt K C F as H k Q → r v lo hi H Q
theorem ev_sl {r : V → Option Int → Option Int → Hp → VK → Prop} {tl th : TO} (h : Ev K C E cs te fun x cs1 => Evo K C E cs1 tl fun lo cs2 => Evo K C E cs2 th fun hi cs3 => Osl K C r x lo hi cs3 k) : Ev K C E cs (tSl r te tl th) k := fun F as H σ Q w e z => by
  refine h F as H σ _ w e fun x cs1 v F1 as1 H1 h1 s1 w1 r1 => ?_
  refine h1 F1 as1 H1 σ _ w1 (e.mono s1.f s1.pre) fun lo cs2 F2 as2 H2 h2 s2 w2 => ?_
  refine h2 F2 as2 H2 σ _ w2 ((e.mono s1.f s1.pre).mono s2.f s2.pre) fun hi cs3 F3 as3 H3 h3 s3 w3 => ?_
  exact h3 F3 as3 H3 v Q w3 ((r1.mono s2.f s2.pre).mono s3.f s3.pre) (Kt.later z ((s1.tr s2).tr s3))
def cutD {α : Type} (xs : List α) (lo hi : Option Int) : List α := (xs.drop (HT.sIx xs.length 0 lo)).take (HT.sIx xs.length xs.length hi - HT.sIx xs.length 0 lo)
theorem cutD_to {α : Type} {ds : List α} {n : Nat} : cutD ds none (some (n : Int)) = ds.take n := by
  unfold cutD
  rw [HT.sIx_none, HT.sIx_nat, List.drop_zero, Nat.sub_zero]
  rcases Nat.le_total n ds.length with h | h
  · rw [Nat.min_eq_left h]
  · rw [Nat.min_eq_right h, List.take_length, List.take_of_length_le h]
theorem cutD_from {α : Type} {ds : List α} {n : Nat} : cutD ds (some (n : Int)) none = ds.drop n := by
  unfold cutD
  rw [HT.sIx_none, HT.sIx_nat]
  rcases Nat.le_total n ds.length with h | h
  · rw [Nat.min_eq_left h, List.take_of_length_le (by rw [List.length_drop]; exact Nat.le_refl _)]
  · rw [Nat.min_eq_right h, List.drop_of_length_le h, List.drop_length]; simp
theorem cutD_len {α : Type} {xs : List α} {lo hi : Option Int} : (cutD xs lo hi).length ≤ xs.length := by
  unfold cutD
  rw [List.length_take, List.length_drop]; omega
theorem cut_dp {xs : List V} {ds : List PyData} {lo hi : Option Int} (h : DpAll K F xs ds) : DpAll K F (cutV xs lo hi) (cutD ds lo hi) := by
  unfold cutV cutD
  rw [h.length]
  exact (h.drop _).take _
theorem os_tup {ds : List PyData} {lo hi : Option Int} (h1 : tupOf x = some ds) (h : k (.d (.tuple (cutD ds lo hi))) cs) : Osl K C (rSlA K) x lo hi cs k := fun F as H v Q w r q => by
  obtain ⟨p, xs, rfl, h3, h4, h5⟩ := tupOf_at h1 w r
  refine ⟨p, xs, rfl, h3, fun e => ?_, fun _ b hb => ?_⟩
  · have : cutD ds lo hi = ds := by
      unfold cutD
      rw [← h4.length, e.1, e.2, h4.length]; simp
    rw [this] at h
    exact q.now h w (.d h5)
  · exact q.frz w hb h (.d (.tupOf upd_same ((Same.new (w.fro.free hb)).dpAll (cut_dp h4))))
theorem os_lst {ds : List PyData} {lo hi : Option Int} (h1 : lstOf x cs = some ds) (h : k (.cel cs.length) (cs ++ [.l (cutD ds lo hi)])) : Osl K C (rSlL K) x lo hi cs k := fun F as H v Q w r q => by
  obtain ⟨p, xs, rfl, h3, h4⟩ := lstOf_at h1 w r
  exact ⟨p, xs, rfl, h3, fun b hb => q.cell w hb trivial (.l upd_same (cut_dp h4)) h⟩
/-! ### one place -/
theorem o1_neg {i : Int} (h : k (.d (.int (-i))) cs) : O1 K C (rU fun i => .int (-i)) (.d (.int i)) cs k := fun F as H v Q w r q => ⟨i, r.int, q.now h w (.d (.int _))⟩
/-! ### builtins -/
theorem on_max {i j : Int} (h : k (.d (.int (if j > i then j else i))) cs) : On K C (fun xs H Q => ∃ i j, xs = [.int i, .int j] ∧ Q (.int (if j > i then j else i)) H) [.d (.int i), .d (.int j)] cs k := fun F as H vs Q w r q => by
  cases r with | cons r1 r2 =>
  cases r2 with | cons r2 r3 =>
  cases r3
  exact ⟨i, j, by rw [r1.int, r2.int], q.now h w (.d (.int _))⟩
theorem on_min {i j : Int} (h : k (.d (.int (if j < i then j else i))) cs) : On K C (fun xs H Q => ∃ i j, xs = [.int i, .int j] ∧ Q (.int (if j < i then j else i)) H) [.d (.int i), .d (.int j)] cs k := fun F as H vs Q w r q => by
  cases r with | cons r1 r2 =>
  cases r2 with | cons r2 r3 =>
  cases r3
  exact ⟨i, j, by rw [r1.int, r2.int], q.now h w (.d (.int _))⟩
theorem on_abs {i : Int} (h : k (.d (.int (if i < 0 then -i else i))) cs) : On K C (fun xs H Q => ∃ i, xs = [.int i] ∧ Q (.int (if i < 0 then -i else i)) H) [.d (.int i)] cs k := fun F as H vs Q w r q => by
  cases r with | cons r1 r2 =>
  cases r2
  exact ⟨i, by rw [r1.int], q.now h w (.d (.int _))⟩
theorem on_int {i : Int} (h : k (.d (.int i)) cs) : On K C (fun xs H Q => (∃ i, xs = [.int i] ∧ Q (.int i) H) ∨ ∃ k, xs = [.bl k] ∧ Q (.int (if k then 1 else 0)) H) [.d (.int i)] cs k := fun F as H vs Q w r q => by
  cases r with | cons r1 r2 =>
  cases r2
  exact .inl ⟨i, by rw [r1.int], q.now h w (.d (.int _))⟩
theorem on_intB {b : Bool} (h : k (.d (.int (if b then 1 else 0))) cs) : On K C (fun xs H Q => (∃ i, xs = [.int i] ∧ Q (.int i) H) ∨ ∃ k, xs = [.bl k] ∧ Q (.int (if k then 1 else 0)) H) [.d (.bool b)] cs k := fun F as H vs Q w r q => by
  cases r with | cons r1 r2 =>
  cases r2
  cases r1 with | d r1 =>
  exact .inr ⟨b, by rw [r1.bl_inv], q.now h w (.d (.int _))⟩
theorem on_lenL {ds : List PyData} (h1 : lstOf x cs = some ds) (h : k (.d (.int ds.length)) cs) : On K C (rLenY K) [x] cs k := fun F as H vs Q w r q => by
  cases r with | cons r1 r2 =>
  cases r2
  obtain ⟨p, xs, rfl, h3, h4⟩ := lstOf_at h1 w r1
  exact ⟨_, ds.length, rfl, .inl ⟨xs, h3, h4.length.symm⟩, q.now h w (.d (.int _))⟩
theorem on_lenA {j : Nat} {ys : List AV} (h1 : cs[j]? = some (.a ys)) (h : k (.d (.int ys.length)) cs) : On K C (rLenY K) [.cel j] cs k := fun F as H vs Q w r q => by
  cases r with | cons r1 r2 =>
  cases r2
  cases r1 with | cel hp =>
  obtain ⟨_, xs, h3, h4⟩ := w.lsa hp h1
  exact ⟨_, ys.length, rfl, .inl ⟨xs, SqL.of h3, h4.length⟩, q.now h w (.d (.int _))⟩
theorem on_lenT {ds : List PyData} (h1 : tupOf x = some ds) (h : k (.d (.int ds.length)) cs) : On K C (rLenY K) [x] cs k := fun F as H vs Q w r q => by
  cases r with | cons r1 r2 =>
  cases r2
  obtain ⟨p, xs, rfl, h3, h4, _⟩ := tupOf_at h1 w r1
  exact ⟨_, ds.length, rfl, .inr ⟨xs, h3, h4.length.symm⟩, q.now h w (.d (.int _))⟩
theorem on_tupL {ds : List PyData} (h1 : lstOf x cs = some ds) (h : k (.d (.tuple ds)) cs) : On K C (rTupOf K) [x] cs k := fun F as H vs Q w r q => by
  cases r with | cons r1 r2 =>
  cases r2
  obtain ⟨p, xs, rfl, h3, h4⟩ := lstOf_at h1 w r1
  exact ⟨p, xs, rfl, .inl ⟨h3, fun b hb => q.frz w hb h (.d (.tupOf upd_same ((Same.new (w.fro.free hb)).dpAll h4)))⟩⟩
theorem on_tupA {j : Nat} {ys : List AV} (h1 : cs[j]? = some (.a ys)) (h : k (.tup ys) cs) : On K C (rTupOf K) [.cel j] cs k := fun F as H vs Q w r q => by
  cases r with | cons r1 r2 =>
  cases r2
  cases r1 with | cel hp =>
  obtain ⟨_, xs, h3, h4⟩ := w.lsa hp h1
  exact ⟨_, xs, rfl, .inl ⟨SqL.of h3, fun b hb => q.frz w hb h (.tup (SqT.of upd_same) (h4.mono (Same.new (w.fro.free hb)) Pre.refl))⟩⟩
theorem on_lstL {ds : List PyData} (h1 : lstOf x cs = some ds) (h : k (.cel cs.length) (cs ++ [.l ds])) : On K C (rLstOf K) [x] cs k := fun F as H vs Q w r q => by
  cases r with | cons r1 r2 =>
  cases r2
  obtain ⟨p, xs, rfl, h3, h4⟩ := lstOf_at h1 w r1
  exact ⟨p, xs, rfl, .inl h3, fun b hb => q.cell w hb trivial (.l upd_same h4) h⟩
theorem on_lstT {ds : List PyData} (h1 : tupOf x = some ds) (h : k (.cel cs.length) (cs ++ [.l ds])) : On K C (rLstOf K) [x] cs k := fun F as H vs Q w r q => by
  cases r with | cons r1 r2 =>
  cases r2
  obtain ⟨p, xs, rfl, h3, h4, _⟩ := tupOf_at h1 w r1
  exact ⟨p, xs, rfl, .inr h3, fun b hb => q.cell w hb trivial (.l upd_same h4) h⟩
theorem dp_bls : ∀ {xs : List V} {bs : List Bool}, DpAll K F xs (bs.map PyData.bool) → xs = bs.map V.bl
  | _, [], h => by cases h; rfl
  | _, b :: bs, h => by
    cases h with
    | cons h1 h2 => rw [h1.bl_inv, dp_bls h2]; rfl
theorem on_all {bs : List Bool} {ds : List PyData} (h1 : lstOf x cs = some ds) (hb : ds = bs.map PyData.bool) (h : k (.d (.bool (bs.all id))) cs) : On K C (rAll K) [x] cs k := fun F as H vs Q w r q => by
  cases r with | cons r1 r2 =>
  cases r2
  obtain ⟨p, xs, rfl, h3, h4⟩ := lstOf_at h1 w r1
  subst hb
  exact ⟨p, bs, rfl, by rw [← dp_bls h4]; exact h3, q.now h w (.d (.bl _))⟩
/-- the name of a value's built-in type -/
def tyA (x : AV) (cs : List Cell) : Option String := match x with
  | .d d => some (tyD d)
  | .tup _ => some "tuple"
  | .cel i => match cs[i]? with
    | some (.l _) => some "list"
    | some (.a _) => some "list"
    | some (.g _ _) => some "list"
    | some (.k none _) => some "dict"
    | some (.m none _ _) => some "dict"
    | _ => none
  | .dct => some "dict"
  | _ => none
theorem tyA_at {s : String} {v : V} (h : tyA x cs = some s) (w : Wd K C F as cs H) (r : AR K C F as x v) : TyX K H v (.type s) ∧ s ∈ ["NoneType", "bool", "int", "str", "list", "tuple", "dict"] := by
  cases x with
  | d d => simp [tyA] at h; subst h; cases r with | d r => exact ⟨(w.fro.dp r).ty, tyD_mem d⟩
  | tup xs =>
    simp [tyA] at h; subst h
    cases r with | tup h1 h2 =>
    refine ⟨?_, by decide⟩
    rcases w.fro.sqT h1 with (h1 | ⟨o, h1⟩) | ⟨o, its, n, h1, h3, _⟩
    · exact .base (.tup h1)
    · exact .fTuple h1
    · exact .kTuple h1 h3
  | cel i =>
    cases r with | cel hp =>
    simp only [tyA] at h
    cases e : cs[i]? with
    | none => rw [e] at h; cases h
    | some c =>
      have hc := w.ok i _ _ hp e
      rw [e] at h
      cases hc with
      | l h1 h2 => simp at h; subst h; exact ⟨.base (.lst h1), by decide⟩
      | a h1 h2 => simp at h; subst h; exact ⟨.base (.lst h1), by decide⟩
      | g h1 h2 => simp at h; subst h; exact ⟨.base (.lst h1), by decide⟩
      | @k p lk kvs xs h0 h1 h2 h3 =>
        cases lk with
        | none => simp at h; subst h; exact ⟨.base (.dK h1), by decide⟩
        | some o => simp at h
      | @m p qs lk ks rows h1 h2 h3 =>
        cases lk with
        | none => simp at h; subst h; exact ⟨.base (.dK h1), by decide⟩
        | some o => simp at h
      | x => simp at h
  | dct =>
    simp [tyA] at h; subst h
    cases r with | dct hp => exact ⟨.base (.dK (w.fro _ _ hp)), by decide⟩
  | _ => simp [tyA] at h
theorem on_isD {s c : String} (h1 : tyA x cs = some s) (hc : c ∈ ["bool", "int", "str", "list", "tuple", "dict"]) (h : k (.d (.bool (isTy s c))) cs) : On K C (rIsD K) [x, .ty c] cs k := fun F as H vs Q w r q => by
  cases r with | cons r1 r2 =>
  cases r2 with | cons r2 r3 =>
  cases r3
  cases r2
  obtain ⟨h2, h3⟩ := tyA_at h1 w r1
  exact ⟨_, s, c, rfl, h2, h3, hc, q.now h w (.d (.bl _))⟩
/-! ### methods of lists -/
theorem ty_l {i : Nat} {ds : List PyData} (h : cs[i]? = some (.l ds)) : TyA K C "list" (.cel i) cs := fun F as H v w r => by
  cases r with | cel hp =>
  obtain ⟨_, vs, h1, _⟩ := w.lst hp h
  exact .inl ⟨rfl, vs, SqL.of h1⟩
theorem ty_a {i : Nat} {ds : List AV} (h : cs[i]? = some (.a ds)) : TyA K C "list" (.cel i) cs := fun F as H v w r => by
  cases r with | cel hp =>
  obtain ⟨_, vs, h1, _⟩ := w.lsa hp h
  exact .inl ⟨rfl, vs, SqL.of h1⟩
theorem ty_str {s : Str} : TyA K C "str" (.d (.str s)) cs := fun F as H v w r => by rw [r.str]; exact rfl
theorem Kt.put {Q : VK} (q : Kt K C F as H k Q) (w : Wd K C F as cs H) {i : Nat} {p : Addr} {o : HO} {c : Cell} (hi : as[i]? = some [p]) (ho : NoTup o) (hc : CellOk K C F as (upd H p o) [p] c) (h : k (.d .none) (cs.set i c)) : Q .non (upd H p o) := by
  obtain ⟨w1, s1⟩ := w.put hi (by simp) ho hc
  exact q _ _ _ _ _ _ h s1 w1 (.d .non)
theorem om_append {i : Nat} {ds : List PyData} {d : PyData} (h1 : cs[i]? = some (.l ds)) (hl : ds.length < 100000) (h : k (.d .none) (cs.set i (.l (ds ++ [d])))) : Om K C rAppend (.cel i) [.d d] cs k := fun F as H v vs Q w r1 r2 q => by
  cases r1 with | cel hp =>
  cases r2 with | cons r2 r3 =>
  cases r3
  cases r2 with | d r2 =>
  obtain ⟨rfl, xs, h3, h4⟩ := w.lst hp h1
  exact ⟨_, xs, _, rfl, rfl, h3, line_lt (by rw [h4.length]; exact hl), q.put w hp trivial (.l upd_same (h4.snoc r2)) h⟩
theorem om_appendA {i : Nat} {ys : List AV} {y : AV} (h1 : cs[i]? = some (.a ys)) (hl : ys.length < 100000) (h : k (.d .none) (cs.set i (.a (ys ++ [y])))) : Om K C rAppend (.cel i) [y] cs k := fun F as H v vs Q w r1 r2 q => by
  cases r1 with | cel hp =>
  cases r2 with | cons r2 r3 =>
  cases r3
  obtain ⟨rfl, xs, h3, h4⟩ := w.lsa hp h1
  exact ⟨_, xs, _, rfl, rfl, h3, line_lt (by rw [← h4.length]; exact hl), q.put w hp trivial (.a upd_same (h4.append (.cons r2 .nil))) h⟩
theorem om_insert {i : Nat} {ds : List PyData} {z : Int} {d : PyData} (h1 : cs[i]? = some (.l ds)) (hl : ds.length < 100000) (hz0 : 0 ≤ z) (hz1 : z < 2 ^ 63) (h : k (.d .none) (cs.set i (.l (ds.take z.toNat ++ [d] ++ ds.drop z.toNat)))) :
    Om K C (fun x vs H Q => ∃ (l : Addr) (xs : List V) (i : Int) (y : V), x = .ref l ∧ vs = [.int i, y] ∧ H l = some (.lst xs) ∧ xs.length < sizeLine ∧ 0 ≤ i ∧ i < 2 ^ 63 ∧ Q .non (upd H l (.lst (xs.take i.toNat ++ [y] ++ xs.drop i.toNat)))) (.cel i) [.d (.int z), .d d] cs k := fun F as H v vs Q w r1 r2 q => by
  cases r1 with | cel hp =>
  cases r2 with | cons r2 r3 =>
  cases r3 with | cons r3 r4 =>
  cases r4
  cases r3 with | d r3 =>
  obtain ⟨rfl, xs, h3, h4⟩ := w.lst hp h1
  exact ⟨_, xs, z, _, rfl, by rw [r2.int], h3, line_lt (by rw [h4.length]; exact hl), hz0, hz1, q.put w hp trivial (.l upd_same (((h4.take _).append (.one r3)).append (h4.drop _))) h⟩
theorem om_extend {i j : Nat} {ds es : List PyData} (h1 : cs[i]? = some (.l ds)) (h2 : cs[j]? = some (.l es)) (hl : ds.length + es.length ≤ 100000) (h : k (.d .none) (cs.set i (.l (ds ++ es)))) : Om K C rExtend (.cel i) [.cel j] cs k := fun F as H v vs Q w r1 r2 q => by
  cases r1 with | cel hp =>
  cases r2 with | cons r2 r3 =>
  cases r3
  cases r2 with | cel hp' =>
  obtain ⟨rfl, xs, h3, h4⟩ := w.lst hp h1
  obtain ⟨rfl, xs', h3', h4'⟩ := w.lst hp' h2
  exact ⟨_, _, xs, xs', rfl, rfl, h3, h3', line_of (by rw [h4.length, h4'.length]; exact hl), q.put w hp trivial (.l upd_same (h4.append h4')) h⟩
theorem DpAll.setD : ∀ {xs : List V} {ds : List PyData} {v : V} {d : PyData} (i : Nat), DpAll K F xs ds → Dp K F v d → DpAll K F (xs.set i v) (ds.set i d)
  | [], _, _, _, _, h, _ => by cases h; exact .nil
  | _ :: _, _, _, _, 0, h, g => by cases h with | cons h1 h2 => exact .cons g h2
  | _ :: _, _, _, _, i + 1, h, g => by cases h with | cons h1 h2 => exact .cons h1 (DpAll.setD i h2 g)
def IsSub (x z y : AV) (cs : List Cell) (f : List Cell → Prop) : Prop := ∃ (i : Nat) (ds : List PyData) (l : Int) (j : Nat) (d : PyData), x = .cel i ∧ z = .d (.int l) ∧ y = .d d ∧ cs[i]? = some (.l ds) ∧ ixN ds.length l = some j ∧ f (cs.set i (.l (ds.set j d)))
theorem isSub {i : Nat} {l : Int} {d : PyData} {ds : List PyData} {j : Nat} {f : List Cell → Prop} (h : cs[i]? = some (.l ds)) (hj : ixN ds.length l = some j) (q : f (cs.set i (.l (ds.set j d)))) : IsSub (.cel i) (.d (.int l)) (.d d) cs f := ⟨i, ds, l, j, d, rfl, rfl, rfl, h, hj, q⟩
/-- xs[i] = v -/
theorem eg_sub {n : Nat} {y : AV} {to ti : TE} {kg : AEnv → List Cell → Prop} (h : Ev K C E cs to fun x cs1 => Ev K C E cs1 ti fun z cs2 => IsSub x z y cs2 fun cs3 => kg E cs3) :
    Eg K C n E y cs (gSub to ti rSetL) kg := fun F as H σ v Q hn w e r q => by
  refine h F as H σ _ w e fun x cs1 o F1 as1 H1 h1 s1 w1 r1 => ?_
  refine h1 F1 as1 H1 σ _ w1 (e.mono s1.f s1.pre) fun z cs2 u F2 as2 H2 ⟨i, ds, l, j, d, hx, hz, hy, hc, hj, h2⟩ s2 w2 r2 => ?_
  subst hx; subst hz; subst hy
  have r1' := r1.mono s2.f s2.pre
  have s12 := s1.tr s2
  have r' := r.mono s12.f s12.pre
  cases r1' with | cel hp =>
  cases r' with | d r' =>
  obtain ⟨rfl, xs, h3, h4⟩ := w2.lst hp hc
  have hn' : n ≤ as.length := by rw [w.len]; exact hn
  obtain ⟨w3, s3⟩ := w2.put (c := .l (ds.set j d)) (o := .lst (xs.set j v)) hp (by simp) trivial (.l upd_same (DpAll.setD j h4 r'))
  refine ⟨_, xs, l, j, rfl, r2.int, h3, by rw [h4.length]; exact hj, ?_⟩
  exact q _ _ F2 as2 _ σ h2 ((s12.weak hn').trans (s3.weak (Nat.le_trans hn' s12.pre.len))) w3 ((e.mono s12.f s12.pre))
end
end Y

/-! # Pure states: more -/
namespace Y
open PySem L2
section
open PySem.Spec PyProof.Rows
variable {X : Cx}
def rCntD (K : PySem.W.Frag) : V → List V → Hp → VK → Prop := fun x xs H Q => ∃ (a : Addr) (y : V) (d : PyData) (ds : List PyData), x = V.ref a ∧ xs = [y] ∧ Dp K H (V.ref a) (.list ds) ∧ Dp K H y d ∧
  SeqAt.shaped (.list ds) = true ∧ SeqAt.shaped d = true ∧ Q (.int (ds.countP fun z => PyData.eqv z d : Nat)) H
theorem mt_countD (hu : X.A.units + 65 < cLine) : MtR X "list.count" (rCntD X.K) := by
  intro pins s σ H x xs v us Q I rx rxs h
  obtain ⟨a, y, d, ds, rfl, rfl, hl, hy, sl, sd, q⟩ := h
  cases rx
  cases rxs with
  | cons ry rt =>
    rename_i uy ut
    cases rt
    obtain ⟨bs, r1⟩ := Dp.reads I d y uy hy ry
    have hxs : PyData.canLayAll0 ds = true := SeqAt.canLay_of_shaped sl
    have hroom : X.A.units + 1 + min (PyData.depthAll ds) d.depth < cLine := room_in_shaped sd hu
    cases hl with
    | lst hs ha =>
      obtain ⟨its, rv, ⟨⟨cls, dd, data, sls⟩, n, ho, hc, hdn, hdt⟩, hlen⟩ := I.list hs
      simp only at hc hdt
      subst hc hdt
      obtain ⟨as, h4⟩ := Dp.readsAll I ds _ its ha rv
      have hmap : its.map (SeqAt.readOf s.heap) = ds := SeqAt.readsAll_map ds its as hxs h4
      refine call_meets PySem.F.slot_list_count ⟨_, ho, rfl⟩ PySem.F.entry_list_count (PySem.F.args_list_count_2 _ _)
        (SeqAt.list_countAt a its.toArray n dd sls uy (fun u => PyData.eqv (SeqAt.readOf s.heap u) d)) ⟨ho, SeqAt.items_eqAt (vs := its.toArray) (show ReadsAll s.heap its.toArray.toList ds as from h4) r1 hxs (SeqAt.canLay_of_shaped sd) hroom, ?_⟩
      refine ⟨.int (ds.countP fun z => PyData.eqv z d : Nat), H, I.tok _, ⟨s.toks, ?_⟩, q⟩
      have e : its.toArray.toList.countP (fun u => PyData.eqv (SeqAt.readOf s.heap u) d) = ds.countP fun z => PyData.eqv z d := by
        rw [← hmap, List.countP_map]; rfl
      show Value.int ((its.toArray.toList.countP _ : Nat) : Int) s.toks = _
      rw [e]
theorem mt_countDK (K : PySem.W.Frag) (hu : X.A.units + 65 < cLine) (hK : X.K = K := by rfl) : MtR X "list.count" (rCntD K) := by subst hK; exact mt_countD hu
theorem pe_bmK2 (K : PySem.W.Frag) {o e : Expr} {es : List Expr} {to : TE} {t : TA} {name : Str} {apos cpos : Pos} {T id : String} {r : V → List V → Hp → VK → Prop} (pa : PlainAttrs T) (slot : Slot T name id) (hty : typeOf (.builtin id) = pure (.type "method_descriptor")) (hm : MtR X id r) (ho : PE X o to) (ha : PA X (e :: es) t) (hK : X.K = K := by rfl) (hb : attributeBase o name X.env (eval o X.env) = eval o X.env := by rfl) (hf : ((backTo cpos (starEach (e :: es) X.env)).all (fun x => !x.1) && (backToKw cpos (keywordEach [] X.env)).all (fun x => x.1.isSome) && decide ((e :: es).length + ([] : List Keyword).length + (if ([] : List Keyword).isEmpty then 0 else 1) < 30)) = true := by rfl) (hl : (apos.endLine == cpos.line) = true := by rfl) (hs : starEach (e :: es) X.env = (false, eval e X.env) :: starEach es X.env := by rfl) (hp : (backTo cpos (starEach es X.env)).any (·.1) = false := by rfl) : PE X (.Call (.Attribute o name apos) (e :: es) [] cpos) (tBM K T r to t) := by
  subst hK; exact pe_bm pa slot hty hm ho ha hb hf hl hs hp
theorem pe_bm0K (K : PySem.W.Frag) {o : Expr} {to : TE} {name : Str} {apos cpos : Pos} {T id : String} {r : V → List V → Hp → VK → Prop} (pa : PlainAttrs T) (slot : Slot T name id) (hty : typeOf (.builtin id) = pure (.type "method_descriptor")) (hm : MtR X id r) (ho : PE X o to)
    (hK : X.K = K := by rfl) (hbase : attributeBase o name X.env (eval o X.env) = eval o X.env := by rfl) (hline : (apos.endLine == cpos.line) = true := by rfl) : PE X (.Call (.Attribute o name apos) [] [] cpos) (tBM0 K T r to) := by
  subst hK; exact pe_bm0 pa slot hty hm ho hbase hline
theorem cr_maxK (K : PySem.W.Frag) (hc : X.calm = true) (hK : X.K = K := by rfl) : CallR X (.builtin "max") (rMax K) := by subst hK; exact cr_max hc
theorem cr_minK (K : PySem.W.Frag) (hc : X.calm = true) (hK : X.K = K := by rfl) : CallR X (.builtin "min") (rMin K) := by subst hK; exact cr_min hc
theorem pa_starK (K : PySem.W.Frag) {e : Expr} {p : Pos} {es : List Expr} {te : TE} {t : TA} (he : PE X e te) (hr : PA X es t) (hK : X.K = K := by rfl) : PA X (.Starred e p :: es) (StX.tStar K te t) := by subst hK; exact StX.pa_star he hr
end
section
variable {K : PySem.W.Frag} {C : Addr} {F F' H H' : Hp} {as as' : Own} {cs cs' cs1 : List Cell} {E : AEnv} {k : AV → List Cell → Prop} {x y : AV}
theorem om_count {d : PyData} {ds : List PyData} (h1 : lstOf x cs = some ds) (h2 : datOf y cs = some d) (s1 : SeqAt.shaped (.list ds) = true) (s2 : SeqAt.shaped d = true) (h : k (.d (.int (ds.countP fun z => PyData.eqv z d : Nat))) cs) : Om K C (rCntD K) x [y] cs k := fun F as H v vs Q w r1 r2 q => by
  cases r2 with | cons r2 r3 =>
  cases r3
  obtain ⟨p, xs, rfl, h3, h4⟩ := lstOf_at h1 w r1
  exact ⟨p, _, d, ds, rfl, rfl, .lst h3 (w.fro.dpAll h4), datOf_at h2 w r2, s1, s2, q.now h w (.d (.int _))⟩
/-- what a callee says of a new list -/
theorem Kt.newL {Q : VK} (q : Kt K C F as H k Q) (w : Wd K C F as cs H) (s : Same H H') {f : Addr} {xs : List V} {ds : List PyData} (nf : H f = none) (hf : H' f = some (.lst xs)) (hx : DpAll K H' xs ds) (im : immAll ds = true) (h : k (.cel cs.length) (cs ++ [.l ds])) : Q (.ref f) H' := by
  obtain ⟨H1, e1⟩ : ∃ H1 : Hp, H1 = fun b => if b = f then none else H' b := ⟨_, rfl⟩
  have n1 : H1 f = none := by rw [e1]; simp
  have o1 : ∀ b, b ≠ f → H1 b = H' b := fun b hb => by rw [e1]; simp [hb]
  have s1 : Same H H1 := fun b o hb => by
    have : b ≠ f := fun z => by rw [z, nf] at hb; cases hb
    rw [o1 b this]; exact s b o hb
  have e2 : upd H1 f (.lst xs) = H' := by
    funext b
    by_cases hb : b = f
    · subst hb; rw [upd_same, hf]
    · rw [upd_ne hb, o1 b hb]
  have t1 : Tups H' H1 := ⟨fun a ys ha => by
    have : a ≠ f := fun z => by rw [z, hf] at ha; cases ha
    rw [o1 a this]; exact ha, fun a o ys ha => by
    have : a ≠ f := fun z => by rw [z, hf] at ha; cases ha
    rw [o1 a this]; exact ha⟩
  obtain ⟨w1, st1⟩ := w.same s1
  have d1 := w1.immAll im (t1.dpAll im hx)
  rw [← e2]
  exact (Kt.later q st1).cell w1 n1 trivial (.l upd_same d1) h
/-- .. of new data that never changes -/
theorem Kt.newD {Q : VK} (q : Kt K C F as H k Q) (w : Wd K C F as cs H) (s : Same H H') {v : V} {d : PyData} (hx : Dp K H' v d) (im : imm d = true) (h : k (.d d) cs) : Q v H' := by
  obtain ⟨w1, st1⟩ := w.same s
  exact q _ _ _ _ _ _ h st1 w1 (.d (w1.imm im hx))
/-- .. of a new script -/
theorem Kt.newS {Q : VK} (q : Kt K C F as H k Q) (w : Wd K C F as cs H) (s : Same H H') {a : Addr} {ds : List PyData} (na : H a = none) (hx : ScrA K C H' a ds) (im : immAll ds = true) (h : k (.scr ds) cs) : Q (.ref a) H' := by
  obtain ⟨w1, st1⟩ := w.same s
  obtain ⟨dx, v, h1, h2⟩ := hx
  exact q _ _ _ _ _ _ h st1 w1 (.scr ⟨dx, v, by rw [absF_new na]; exact h1, w1.imm (d := .tuple ds) im h2⟩)
theorem dp_ints : ∀ {xs : List V} {ns : List Int}, DpAll K F xs (ns.map PyData.int) → xs = ns.map V.int
  | _, [], h => by cases h; rfl
  | _, n :: ns, h => by
    cases h with
    | cons h1 h2 => rw [h1.int_inv, dp_ints h2]; rfl
theorem on_max1 {ns : List Int} {ds : List PyData} (h1 : lstOf x cs = some ds) (hd : ds = ns.map PyData.int) (hn : 0 < ns.length) (h : ∀ m, m ∈ ns → (∀ y, y ∈ ns → y ≤ m) → k (.d (.int m)) cs) : On K C (rMax K) [x] cs k := fun F as H vs Q w r q => by
  cases r with | cons r1 r2 =>
  cases r2
  obtain ⟨p, xs, rfl, h3, h4⟩ := lstOf_at h1 w r1
  subst hd
  exact ⟨p, ns, rfl, by rw [← dp_ints h4]; exact h3, hn, fun m hm hy => q.now (h m hm hy) w (.d (.int _))⟩
theorem on_min1 {ns : List Int} {ds : List PyData} (h1 : lstOf x cs = some ds) (hd : ds = ns.map PyData.int) (hn : 0 < ns.length) (h : ∀ m, m ∈ ns → (∀ y, y ∈ ns → m ≤ y) → k (.d (.int m)) cs) : On K C (rMin K) [x] cs k := fun F as H vs Q w r q => by
  cases r with | cons r1 r2 =>
  cases r2
  obtain ⟨p, xs, rfl, h3, h4⟩ := lstOf_at h1 w r1
  subst hd
  exact ⟨p, ns, rfl, by rw [← dp_ints h4]; exact h3, hn, fun m hm hy => q.now (h m hm hy) w (.d (.int _))⟩
theorem evs_starD {te : TE} {t : TA} {kl : List AV → List Cell → Prop} (h : Ev K C E cs te fun x cs1 => ∃ ds, tupOf x = some ds ∧ Evs K C E cs1 t fun xs cs2 => kl (ds.map AV.d ++ xs) cs2) : Evs K C E cs (StX.tStar K te t) kl := fun F as H σ Q w e z => by
  refine h F as H σ _ w e fun x cs1 v F1 as1 H1 ⟨ds, hd, h1⟩ s1 w1 r1 => ?_
  obtain ⟨p, xs, rfl, h3, h4, _⟩ := tupOf_at hd w1 r1
  refine ⟨p, xs, rfl, .inl h3, ?_⟩
  refine h1 F1 as1 H1 σ _ w1 (e.mono s1.f s1.pre) fun ys cs2 us F2 as2 H2 h2 s2 w2 r2 => ?_
  exact z _ cs2 _ F2 as2 H2 h2 (s1.tr s2) w2 ((ARs.data (s2.f.dpAll h4)).append r2)
/-! ### a body's end: what is over is dropped -/
def Rt (n : Nat) (k : AV → List Cell → Prop) (x : AV) (cs' : List Cell) : Prop :=
  (∃ j, n ≤ j ∧ AV.lt j x = true ∧ ltC j (cs'.take j) = true ∧ k x (cs'.take j)) ∨
  ∃ j ds, x = .cel j ∧ cs'[j]? = some (.l ds) ∧ n ≤ j ∧ ltC n (cs'.take n) = true ∧ k (.cel n) (cs'.take n ++ [.l ds])
theorem Wd.pick (w : Wd K C F as cs H) {n j : Nat} {own : List Addr} {ds : List PyData} (hn : n ≤ j) (ho : as[j]? = some own) (hc : cs[j]? = some (.l ds)) (hl : ltC n (cs.take n) = true) : Wd K C F (as.take n ++ [own]) (cs.take n ++ [.l ds]) H := by
  have hj : j < as.length := (List.getElem?_eq_some_iff.mp ho).1
  have hn' : n ≤ as.length := by omega
  have lt : (as.take n).length = n := by rw [List.length_take]; omega
  have w1 := w.cut (n := n) fun c hc' => ltC_get hl hc'
  refine ⟨w.fro, fun i o hi b hb => ?_, fun i i' o o' hi hi' hne b hb => ?_, fun i o hi => ?_, by rw [List.length_append, List.length_append, w1.len]; rfl, fun i o c hi hc' => ?_, fun i o hi b hb u h => ?_, w.tp⟩
  · rcases get_snoc hi with hi | ⟨_, rfl⟩
    · exact w1.dis i o hi b hb
    · exact w.dis j o ho b hb
  · rcases get_snoc hi with g1 | ⟨e1, q1⟩ <;> rcases get_snoc hi' with g2 | ⟨e2, q2⟩
    · exact w1.sep i i' o o' g1 g2 hne b hb
    · have := get_take g1
      rw [q2]
      exact w.sep i j o own this.1 ho (by omega) b hb
    · have := get_take g2
      rw [q1] at hb
      exact w.sep j i' own o' ho this.1 (by omega) b hb
    · exact absurd (e1.trans e2.symm) hne
  · rcases get_snoc hi with hi | ⟨_, rfl⟩
    · exact w1.nd i o hi
    · exact w.nd j o ho
  · rcases get_snoc hi with hi | ⟨e1, rfl⟩
    · rw [List.getElem?_append_left (by rw [← w1.len]; exact (List.getElem?_eq_some_iff.mp hi).1)] at hc'
      exact (w1.ok i o c hi hc').mono (Same.refl F) Pre.snoc fun b _ u h => h
    · rw [e1, w1.len] at hc'
      rcases get_snoc hc' with z | ⟨_, rfl⟩
      · rw [List.getElem?_eq_none (Nat.le_refl _)] at z; cases z
      · have := w.ok j _ _ ho hc
        cases this with | l h1 h2 => exact .l h1 h2
  · rcases get_snoc hi with hi | ⟨_, rfl⟩
    · exact w1.mu i o hi b hb u h
    · exact w.mu j o ho b hb u h
theorem body_rt {N : List Str} {xs : List AV} {vs : List V} {t : TS} {Q : VK} (w : Wd K C F as cs H) (r : ARs K C F as xs vs) (hx : Ex K C cs.length (startE N xs) cs t { nx := fun _ cs' => Rt cs.length k (.d .none) cs', rt := Rt cs.length k })
    (q : ∀ r cs' v F' as' H', k r cs' → Stp as.length F as H F' as' H' → Wd K C F' as' cs' H' → AR K C F' as' r v → Q v H') : t { nx := fun _ H' => Q .non H', rt := Q } (L2.start N vs) H := by
  have key : ∀ r cs' v F' as' H', Rt cs.length k r cs' → Stp as.length F as H F' as' H' → Wd K C F' as' cs' H' → AR K C F' as' r v → Q v H' := fun r cs' v F' as' H' h s w' r' => by
    rcases h with ⟨j, h1, h2, h3, h4⟩ | ⟨j, ds, rfl, h2, h3, h4, h5⟩
    · exact q r _ v F' _ H' h4 (s.cut (by rw [w.len]; exact h1)) (w'.cut fun c hc => ltC_get h3 hc) (r'.cut h2)
    · cases r' with | cel hp =>
      obtain ⟨rfl, _⟩ := w'.lst hp h2
      have lt : (as'.take cs.length).length = cs.length := by rw [List.length_take, ← w.len]; have := s.pre.len; omega
      refine q _ _ _ F' _ H' h5 ?_ (w'.pick h3 hp h2 h4) (.cel (r := []) (by rw [List.getElem?_append_right (Nat.le_of_eq lt), lt]; simp))
      have s1 := s.cut (m := cs.length) (by rw [w.len]; exact Nat.le_refl _)
      exact ⟨s1.f, fun i hi own ho => by
        obtain ⟨r, e⟩ := s1.a i hi own ho
        exact ⟨r, by rw [List.getElem?_append_left (List.getElem?_eq_some_iff.mp e).1]; exact e⟩, s1.fr, s1.dm, s1.nf, fun b ⟨i, own, hi, hb⟩ => by
        rcases get_snoc hi with hi | ⟨_, rfl⟩
        · exact s1.na b ⟨i, own, hi, hb⟩
        · exact s.na b ⟨j, _, hp, hb⟩⟩
  exact body_ok w r hx key
theorem body_go {N : List Str} {xs : List AV} {vs : List V} {t : TS} {Q : VK} {n : Nat} (E : AEnv) (hE : startE N xs = E) (hn : cs.length = n) (w : Wd K C F as cs H) (r : ARs K C F as xs vs) (hx : Ex K C n E cs t { nx := fun _ cs' => Rt n k (.d .none) cs', rt := Rt n k })
    (q : ∀ r cs' v F' as' H', k r cs' → Stp as.length F as H F' as' H' → Wd K C F' as' cs' H' → AR K C F' as' r v → Q v H') : t { nx := fun _ H' => Q .non H', rt := Q } (L2.start N vs) H := by
  subst hE; subst hn
  exact body_rt w r hx q
theorem Rt.here {n : Nat} {x : AV} (h : k x cs) (h1 : n ≤ cs.length) (h2 : AV.lt cs.length x = true) (h3 : ltC cs.length cs = true) : Rt n k x cs := .inl ⟨cs.length, h1, h2, by rw [List.take_length]; exact h3, by rw [List.take_length]; exact h⟩
theorem Rt.cut {n : Nat} {x : AV} (j : Nat) (h : k x (cs.take j)) (h1 : n ≤ j) (h2 : AV.lt j x = true) (h3 : ltC j (cs.take j) = true) : Rt n k x cs := .inl ⟨j, h1, h2, h3, h⟩
theorem Rt.pick {n j : Nat} {ds : List PyData} (hc : cs[j]? = some (.l ds)) (h : k (.cel n) (cs.take n ++ [.l ds])) (h1 : n ≤ j) (h3 : ltC n (cs.take n) = true) : Rt n k (.cel j) cs := .inr ⟨j, ds, rfl, hc, h1, h3, h⟩
theorem ex_mid {n : Nat} {D : AEnds} {t u : TS} (Mid : AEnv → List Cell → Prop) (h : Ex K C n E cs t { D with nx := Mid }) (q : ∀ E' cs', Mid E' cs' → Ex K C n E' cs' u D) : Ex K C n E cs (C8.tCut t u) D := fun F as H σ Dc hn w e d => by
  have hn' : n ≤ as.length := by rw [w.len]; exact hn
  refine ⟨fun σ' H' => ∃ E' cs' F' as', Mid E' cs' ∧ Stp n F as H F' as' H' ∧ Wd K C F' as' cs' H' ∧ EnvR K C F' as' E' σ', ?_, ?_⟩
  · exact h F as H σ _ hn w e ⟨fun E' cs' F' as' H' σ' g s w' e' => ⟨E', cs', F', as', g, s, w', e'⟩, d.rt, d.bk, d.ct, d.ex⟩
  · rintro σ' H' ⟨E', cs', F', as', g, s, w', e'⟩
    exact q E' cs' g F' as' H' σ' Dc (by rw [← w'.len]; exact s.len hn') w' e' (d.later s)
theorem ev_chain {r r' : R2} {ta tb tc : TE} (h : Ev K C E cs ta fun x cs1 => Ev K C E cs1 tb fun y cs2 => O2 K C r x y cs2 fun z cs3 => IsB z fun b => if b = true then Ev K C E cs3 tc fun u cs4 => O2 K C r' y u cs4 k else k (.d (.bool false)) cs3) : Ev K C E cs (tChain r r' ta tb tc) k := fun F as H σ Q w e z => by
  refine h F as H σ _ w e fun x cs1 v F1 as1 H1 h1 s1 w1 r1 => ?_
  refine h1 F1 as1 H1 σ _ w1 (e.mono s1.f s1.pre) fun y cs2 u F2 as2 H2 h2 s2 w2 r2 => ?_
  refine h2 F2 as2 H2 v u _ w2 (r1.mono s2.f s2.pre) r2 fun bz cs3 bv F3 as3 H3 ⟨b, hb, h3⟩ s3 w3 r3 => ?_
  subst hb
  cases r3 with | d r3 =>
  have s13 := (s1.tr s2).tr s3
  refine ⟨b, r3.bl_inv, ?_⟩
  cases b with
  | false => exact z _ cs3 _ F3 as3 H3 h3 s13 w3 (.d (.bl false))
  | true =>
    refine h3 F3 as3 H3 σ _ w3 (e.mono s13.f s13.pre) fun y2 cs4 u2 F4 as4 H4 h4 s4 w4 r4 => ?_
    exact h4 F4 as4 H4 u u2 Q w4 ((r2.mono s3.f s3.pre).mono s4.f s4.pre) r4 (Kt.later z (s13.tr s4))
/-- a method of a script, by its contract -/
theorem ev_methD {A : ASp} {m : Str} {X : XK} {te : TE} {tas : TA} (hm : m ≠ "kept_steps") (h : Ev K C E cs te fun x cs1 => IsScr x fun ds => Evs K C E cs1 tas fun xs cs2 => IsDs xs fun es => A (.scr ds :: es.map AV.d) [] fun y cz' => k (y.ren (rho [] cs2.length)) (putC cs2 [] (cz'.map (Cell.ren (rho [] cs2.length))))) : Ev K C E cs (tMeth C m (spA K C A) [] X te tas) k := fun F as H σ Q w e z => by
  refine h F as H σ _ w e fun x cs1 v F1 as1 H1 ⟨ds, hx, h1⟩ s1 w1 r1 => ?_
  subst hx
  have r1' := r1
  cases r1 with | scr hs =>
  obtain ⟨dx, u, h2, h3⟩ := hs
  refine ⟨_, dx, _, rfl, w1.fro _ _ h2, by rw [lookup_putF, if_neg hm]; rfl, ?_⟩
  refine h1 F1 as1 H1 σ _ w1 (e.mono s1.f s1.pre) fun xs cs2 vs F2 as2 H2 ⟨es, he, _, hA⟩ s2 w2 r2 => ?_
  rw [List.append_nil]
  refine call_core (is := []) (zs := .scr ds :: es.map AV.d) (cz := []) (xs := .scr ds :: xs) ⟨List.nodup_nil, fun i hi => absurd hi (List.not_mem_nil), ?_, ?_, rfl, rfl⟩ w2 (.cons (r1'.mono s2.f s2.pre) r2) hA (Kt.later z (s1.tr s2))
  · rw [unD_eq he]
    show AV.scr ds :: AV.renAll _ _ = _
    rw [renAll_map, List.map_map]; rfl
  · show (AV.lt 0 (.scr ds) && AV.ltAll 0 (es.map AV.d)) = true
    have : ∀ es : List PyData, AV.ltAll 0 (es.map AV.d) = true := fun es => by
      induction es with
      | nil => rfl
      | cons d ds ih => simpa [AV.ltAll, AV.lt] using ih
    rw [this]; rfl
theorem ite_f {A B : Prop} (h : B) : if false = true then A else B := h
theorem ite_t {A B : Prop} (h : A) : if true = true then A else B := h
/-- [e for g in wi if tt], where nothing changes -/
theorem ev_lcP {te : TE} {wi : TI} {g : TG} {tt : TT} {vs : List Nat} (m : Nat) (f : Nat → Bool) (v : Nat → PyData) (h : Evi K C m E cs wi fun items ok cs1 => cs1.length = m ∧ items.length ≤ 99999 ∧ ok cs1 ∧ ltC m cs1 = true ∧
      (∀ i y, items[i]? = some y → EgC K C vs (wipeE E vs) y cs1 g fun E2 cs2 => Evt K C E2 cs2 tt fun b cs3 => b = f i ∧ cs3.take m = cs1 ∧ (b = true → Ev K C E2 cs3 te fun z cs4 => z = .d (v i) ∧ cs4.take m = cs1)) ∧
      k (.cel m) (cs1 ++ [.l (((List.range items.length).filter f).map v)])) : Ev K C E cs (tLc wi g tt te vs) k := by
  refine ev_lc m fun F as H σ R w e q => h F as H σ R w e fun items ok cs1 F1 as1 H1 J ⟨hl, hz, hok, hlt, hstep, hk⟩ => q items ok cs1 F1 as1 H1 J ⟨hl.symm, hz, fun i acc cs' => cs' = cs1 ∧ acc = ((List.range i).filter f).map v, ⟨rfl, rfl⟩, fun i acc cs' hi => by rw [hi.1]; exact hok, ?_, ?_⟩
  · rintro i y acc cs' hy ⟨rfl, rfl⟩
    intro F as H σ0 σ v' Q w e r hw q
    refine hstep i y hy F as H σ0 σ v' Q w e r hw fun E' σ' hE e' hw' => q E' σ' ?_ e' hw'
    intro F as H σ Q w e z
    refine hE F as H σ Q w e fun b cs3 F' as' H' ⟨hb, h3, h4⟩ => z b cs3 F' as' H' ?_
    cases b with
    | false =>
      refine ite_f ⟨[], m, rfl, Nat.le_refl m, rfl, by rw [h3]; exact hlt, h3, ?_⟩
      rw [List.range_succ, List.filter_append, List.filter_cons_of_neg (by rw [← hb]; decide)]; simp
    | true =>
      refine ite_t fun F as H σ Q w e z => h4 rfl F as H σ Q w e fun z' cs4 v' F' as' H' ⟨hz', h5⟩ => z z' cs4 v' F' as' H' ⟨v i, hz', [], m, rfl, Nat.le_refl m, rfl, by rw [h5]; exact hlt, h5, ?_⟩
      rw [List.range_succ, List.filter_append, List.filter_cons_of_pos (by rw [← hb])]; simp
  · rintro acc cs' ⟨rfl, rfl⟩
    rw [hl]; exact hk
/-- a cut that drops what is over -/
theorem ex_midC {n : Nat} {D : AEnds} {t u : TS} (Mid : AEnv → List Cell → Prop) (h : Ex K C n E cs t { D with nx := Cm n Mid }) (q : ∀ E' cs', Mid E' cs' → Ex K C n E' cs' u D) : Ex K C n E cs (C8.tCut t u) D :=
  ex_mid (Cm n Mid) h fun E' cs' hc F as H σ Dc hn w e d => by
    refine hc.run w e (Stp.refl (n := n)) fun E1 cs1 as1 p s1 w1 e1 => ?_
    have hn' : n ≤ as.length := by rw [w.len]; exact hn
    exact q E1 cs1 p F as1 H σ Dc (by rw [← w1.len]; exact s1.len hn') w1 e1 (d.later s1)
/-! ### scripts -/
theorem ev_steps {m : Str} {sp : Sp} {X : XK} {te : TE} (hsp : ∀ a dx v H Q, H a = some (.ins C dx (putF "kept_steps" v [])) → Q v H → sp [.ref a] H Q X) (hm : m ≠ "kept_steps") (h : Ev K C E cs te fun x cs1 => IsScr x fun ds => k (.d (.tuple ds)) cs1) : Ev K C E cs (tMeth C m sp [] X te tNil) k := fun F as H σ Q w e z => by
  refine h F as H σ _ w e fun x cs1 v F1 as1 H1 ⟨ds, hx, h1⟩ s1 w1 r1 => ?_
  subst hx
  cases r1 with | scr hs =>
  obtain ⟨dx, u, h2, h3⟩ := hs
  have h2' := w1.fro _ _ h2
  exact ⟨_, dx, _, rfl, h2', by rw [lookup_putF, if_neg hm]; rfl, hsp _ dx u H1 _ h2' (z _ cs1 u F1 as1 H1 h1 s1 w1 (.d h3))⟩
end
end Y

/-! # Pure states: results with several parts -/
namespace Y
open PySem L2
section
variable {K : PySem.W.Frag} {C : Addr} {F F' H H' : Hp} {as as' : Own} {cs cs' cs1 : List Cell} {E : AEnv} {k : AV → List Cell → Prop} {x y : AV}
theorem Rt.run {r : AV} {v : V} {R : Prop} (h : Rt cs.length k r cs') (w : Wd K C F as cs H) (s : Stp as.length F as H F' as' H') (w' : Wd K C F' as' cs' H') (r' : AR K C F' as' r v)
    (q : ∀ r1 cs1 as1, k r1 cs1 → Stp as.length F as H F' as1 H' → Wd K C F' as1 cs1 H' → AR K C F' as1 r1 v → R) : R := by
  rcases h with ⟨j, h1, h2, h3, h4⟩ | ⟨j, ds, rfl, h2, h3, h4, h5⟩
  · exact q r _ _ h4 (s.cut (by rw [w.len]; exact h1)) (w'.cut fun c hc => ltC_get h3 hc) (r'.cut h2)
  · cases r' with | cel hp =>
    obtain ⟨rfl, _⟩ := w'.lst hp h2
    have lt : (as'.take cs.length).length = cs.length := by rw [List.length_take, ← w.len]; have := s.pre.len; omega
    refine q _ _ _ h5 ?_ (w'.pick h3 hp h2 h4) (.cel (r := []) (by rw [List.getElem?_append_right (Nat.le_of_eq lt), lt]; simp))
    have s1 := s.cut (m := cs.length) (by rw [w.len]; exact Nat.le_refl _)
    exact ⟨s1.f, fun i hi own ho => by
      obtain ⟨r, e⟩ := s1.a i hi own ho
      exact ⟨r, by rw [List.getElem?_append_left (List.getElem?_eq_some_iff.mp e).1]; exact e⟩, s1.fr, s1.dm, s1.nf, fun b ⟨i, own, hi, hb⟩ => by
      rcases get_snoc hi with hi | ⟨_, rfl⟩
      · exact s1.na b ⟨i, own, hi, hb⟩
      · exact s.na b ⟨j, _, hp, hb⟩⟩
/-- a result, its cells kept, all else dropped -/
def Rs (n : Nat) (k : AV → List Cell → Prop) (x : AV) (cs' : List Cell) : Prop := Rt n k x cs' ∨ ∃ js x1 cs1, Sel n js [some x1] cs1 [some x] cs' ∧ k x1 cs1
theorem body_go2 {N : List Str} {xs : List AV} {vs : List V} {t : TS} {Q : VK} {n : Nat} (E : AEnv) (hE : startE N xs = E) (hn : cs.length = n) (w : Wd K C F as cs H) (r : ARs K C F as xs vs) (hx : Ex K C n E cs t { nx := fun _ cs' => Rs n k (.d .none) cs', rt := Rs n k })
    (q : ∀ r cs' v F' as' H', k r cs' → Stp as.length F as H F' as' H' → Wd K C F' as' cs' H' → AR K C F' as' r v → Q v H') : t { nx := fun _ H' => Q .non H', rt := Q } (L2.start N vs) H := by
  subst hn; subst hE
  have key : ∀ r cs' v F' as' H', Rs cs.length k r cs' → Stp as.length F as H F' as' H' → Wd K C F' as' cs' H' → AR K C F' as' r v → Q v H' := fun r cs' v F' as' H' h s w' r' => by
    rcases h with h | ⟨js, x1, cs1, S, hk⟩
    · exact h.run w s w' r' fun r1 cs1 as1 hk s1 w1 a1 => q r1 cs1 v F' as1 H' hk s1 w1 a1
    · have e : EnvR K C F' as' [some r] [some v] := ⟨rfl, fun i x hx => by
        cases i with
        | zero => simp at hx; subst hx; exact ⟨v, rfl, r'⟩
        | succ i => simp at hx⟩
      rw [← w.len] at S
      obtain ⟨as1, s1, w1, e1⟩ := S.run w' e s
      obtain ⟨v', h1, h2⟩ := e1.get 0 x1 rfl
      cases h1
      exact q _ cs1 _ F' as1 H' hk s1 w1 h2
  exact body_ok (k := fun x cs' => Rs cs.length k x cs') w r hx key
theorem Rs.sel {n : Nat} (js : List Nat) {x1 : AV} (S : Sel n js [some x1] cs1 [some x] cs) (h : k x1 cs1) : Rs n k x cs := .inr ⟨js, x1, cs1, S, h⟩
/-- what a callee says of a tuple of two new lists -/
theorem Kt.newT {Q : VK} (q : Kt K C F as H k Q) (w : Wd K C F as cs H) (s : Same H H') {t e f : Addr} {xs ys : List V} {ds es : List PyData} (nt : H t = none) (ne : H e = none) (nf : H f = none) (hef : e ≠ f) (ht : H' t = some (.tup [.ref e, .ref f])) (he : H' e = some (.lst xs)) (hf : H' f = some (.lst ys))
    (hx : DpAll K H' xs ds) (hy : DpAll K H' ys es) (im : immAll ds = true) (im2 : immAll es = true) (h : k (.tup [.cel cs.length, .cel (cs.length + 1)]) (cs ++ [.l ds] ++ [.l es])) : Q (.ref t) H' := by
  have te : t ≠ e := fun z => by rw [z, he] at ht; cases ht
  have tf : t ≠ f := fun z => by rw [z, hf] at ht; cases ht
  obtain ⟨H1, e1⟩ : ∃ H1 : Hp, H1 = fun b => if b = e ∨ b = f then none else H' b := ⟨_, rfl⟩
  have n1 : H1 e = none := by rw [e1]; simp
  have n2 : H1 f = none := by rw [e1]; simp
  have o1 : ∀ b, b ≠ e → b ≠ f → H1 b = H' b := fun b hb hb2 => by rw [e1]; simp [hb, hb2]
  have s1 : Same H H1 := fun b o hb => by
    have h1 : b ≠ e := fun z => by rw [z, ne] at hb; cases hb
    have h2 : b ≠ f := fun z => by rw [z, nf] at hb; cases hb
    rw [o1 b h1 h2]; exact s b o hb
  have n2' : upd H1 e (.lst xs) f = none := by rw [upd_ne (Ne.symm hef)]; exact n2
  have e2 : upd (upd H1 e (.lst xs)) f (.lst ys) = H' := by
    funext b
    by_cases hb : b = f
    · subst hb; rw [upd_same, hf]
    · rw [upd_ne hb]
      by_cases hb2 : b = e
      · subst hb2; rw [upd_same, he]
      · rw [upd_ne hb2, o1 b hb2 hb]
  have t1 : Tups H' H1 := ⟨fun a zs ha => by
    have h1 : a ≠ e := fun z => by rw [z, he] at ha; cases ha
    have h2 : a ≠ f := fun z => by rw [z, hf] at ha; cases ha
    rw [o1 a h1 h2]; exact ha, fun a o zs ha => by
    have h1 : a ≠ e := fun z => by rw [z, he] at ha; cases ha
    have h2 : a ≠ f := fun z => by rw [z, hf] at ha; cases ha
    rw [o1 a h1 h2]; exact ha⟩
  obtain ⟨w1, st1⟩ := w.same s1
  have d1 := w1.immAll im (t1.dpAll im hx)
  have d2 := w1.immAll im2 (t1.dpAll im2 hy)
  obtain ⟨w2, st2⟩ := w1.newC (c := .l ds) (o := .lst xs) n1 trivial (.l upd_same d1)
  obtain ⟨w3, st3⟩ := w2.newC (c := .l es) (o := .lst ys) n2' trivial (.l upd_same d2)
  rw [← e2]
  have l1 : (as ++ [[e]]).length = cs.length + 1 := by rw [List.length_append, w.len]; rfl
  refine q _ _ _ _ _ _ h ((st1.tr st2).tr st3) w3 (.tup (vs := [.ref e, .ref f]) (SqT.of ?_) (.cons (.cel (p := e) (r := []) ?_) (.cons (.cel (p := f) (r := []) ?_) .nil)))
  · rw [absF_new nt, o1 t te tf]; exact ht
  · rw [List.getElem?_append_left (by rw [l1]; omega), ← w.len, List.getElem?_append_right (Nat.le_refl _)]; simp
  · rw [← l1, List.getElem?_append_right (Nat.le_refl _)]; simp
/-! ### data with lists in it -/
mutual
def dat2 (x : AV) (cs : List Cell) : Option PyData := match x with
  | .d d => some d
  | .cel i => match cs[i]? with
    | some (.l ds) => some (.list ds)
    | _ => none
  | .tup xs => match dat2s xs cs with
    | some ds => some (.tuple ds)
    | none => none
  | _ => none
def dat2s (xs : List AV) (cs : List Cell) : Option (List PyData) := match xs with
  | [] => some []
  | x :: xs => match dat2 x cs, dat2s xs cs with
    | some d, some ds => some (d :: ds)
    | _, _ => none
end
mutual
theorem dat2_at (w : Wd K C F as cs H) : ∀ {x : AV} {d : PyData} {v : V}, dat2 x cs = some d → AR K C F as x v → Dp K H v d
  | .d e, d, v, h, r => by simp [dat2] at h; subst h; cases r with | d r => exact w.fro.dp r
  | .cel i, d, v, h, r => datOf_at (x := .cel i) (by rw [← h]; rfl) w r
  | .tup xs, d, v, h, r => by
    simp only [dat2] at h
    cases e : dat2s xs cs with
    | none => rw [e] at h; cases h
    | some ds =>
      rw [e] at h; cases h
      cases r with | tup h1 h2 => exact .tup (w.fro.sqT h1) (dat2s_at w e h2)
  | .sub _ _, _, _, h, _ => by simp [dat2] at h
  | .scr _, _, _, h, _ => by simp [dat2] at h
  | .ty _, _, _, h, _ => by simp [dat2] at h
  | .dct, _, _, h, _ => by simp [dat2] at h
  | .raw _, _, _, h, _ => by simp [dat2] at h
  | .exn _ _ _ _, _, _, h, _ => by simp [dat2] at h
theorem dat2s_at (w : Wd K C F as cs H) : ∀ {xs : List AV} {ds : List PyData} {vs : List V}, dat2s xs cs = some ds → ARs K C F as xs vs → DpAll K H vs ds
  | [], ds, vs, h, r => by simp [dat2s] at h; subst h; cases r; exact .nil
  | x :: xs, ds, vs, h, r => by
    simp only [dat2s] at h
    cases e1 : dat2 x cs with
    | none => rw [e1] at h; simp at h
    | some d =>
      cases e2 : dat2s xs cs with
      | none => rw [e1, e2] at h; simp at h
      | some es =>
        rw [e1, e2] at h; cases h
        cases r with | cons h1 h2 => exact .cons (dat2_at w e1 h1) (dat2s_at w e2 h2)
end
/-- == of data with lists in it -/
theorem o_eqD2 {a b : PyData} (h1 : dat2 x cs = some a) (h2 : dat2 y cs = some b) (s1 : SeqAt.shaped a = true) (s2 : SeqAt.shaped b = true) (h : k (.d (.bool (PyData.eqv a b))) cs) : O2 K C (rEqD K) x y cs k := fun F as H v u Q w r1 r2 q =>
  ⟨a, b, dat2_at w h1 r1, dat2_at w h2 r2, s1, s2, q.now h w (.d (.bl _))⟩
theorem o_neD2 {a b : PyData} (h1 : dat2 x cs = some a) (h2 : dat2 y cs = some b) (s1 : SeqAt.shaped a = true) (s2 : SeqAt.shaped b = true) (h : k (.d (.bool (!PyData.eqv a b))) cs) : O2 K C (rNeD K) x y cs k := fun F as H v u Q w r1 r2 q =>
  ⟨a, b, dat2_at w h1 r1, dat2_at w h2 r2, s1, s2, q.now h w (.d (.bl _))⟩
end
end Y

/-! # Pure states: grids (lists of own lists) and dicts -/
namespace Y
open PySem L2
section
variable {K : PySem.W.Frag} {C : Addr} {F F' H H' : Hp} {as as' : Own} {cs cs' cs1 : List Cell} {E : AEnv} {k : AV → List Cell → Prop} {ta tb te tc td ty : TE} {tas tar : TA} {x y : AV}
/-! ### rows -/
theorem Wd.grid (w : Wd K C F as cs H) {i : Nat} {ix : List Nat} {rows : List (List PyData)} {p : Addr} {qs : List Addr} (hp : as[i]? = some (p :: qs)) (h : cs[i]? = some (.g ix rows)) : H p = some (.lst (rowsV qs ix)) ∧ (∀ j ∈ ix, j < rows.length) ∧ GridOk K F H qs rows := by
  cases w.ok i _ _ hp h with
  | g h1 h2 h3 => exact ⟨h1, h2, h3⟩
theorem Wd.dkt (w : Wd K C F as cs H) {i : Nat} {lk : Option (Obj × List (Key × V))} {xs : List (Key × AV)} {p : Addr} {qs : List Addr} (hp : as[i]? = some (p :: qs)) (h : cs[i]? = some (.k lk xs)) : qs = [] ∧ ∃ kvs, lkK lk kvs ∧ H p = some (lkO (lk.map Prod.fst) (.dK kvs)) ∧ kvs.map Prod.fst = xs.map Prod.fst ∧ ARs K C F as (xs.map Prod.snd) (kvs.map Prod.snd) := by
  cases w.ok i _ _ hp h with
  | k h0 h1 h2 h3 => exact ⟨rfl, _, h0, h1, h2, h3⟩
theorem Wd.drw (w : Wd K C F as cs H) {i : Nat} {lk : Option Obj} {ks : List (Key × Nat)} {rows : List (List PyData)} {p : Addr} {qs : List Addr} (hp : as[i]? = some (p :: qs)) (h : cs[i]? = some (.m lk ks rows)) : H p = some (lkO lk (.dK (rowsK qs ks))) ∧ (∀ x ∈ ks, x.2 < rows.length) ∧ GridOk K F H qs rows := by
  cases w.ok i _ _ hp h with
  | m h1 h2 h3 => exact ⟨h1, h2, h3⟩
theorem getD_get {qs : List Addr} {j : Nat} (h : j < qs.length) : qs[j]? = some (qs.getD j 0) := by
  rw [List.getD_eq_getElem?_getD, List.getElem?_eq_getElem h]; rfl
theorem row_at {i : Nat} {p : Addr} {qs : List Addr} {rows : List (List PyData)} {j : Nat} (hp : as[i]? = some (p :: qs)) (g : GridOk K F H qs rows) (h : j < rows.length) : AR K C F as (.sub i j) (.ref (qs.getD j 0)) := .sub hp (by rw [List.getElem?_cons_succ]; exact getD_get (by rw [g.len]; exact h))
/-- olds[k]: a row -/
theorem o_ixG {i : Nat} {ix : List Nat} {rows : List (List PyData)} {z : Int} {j : Nat} (h1 : cs[i]? = some (.g ix rows)) (h2 : atI ix z = some j) (h : k (.sub i j) cs) : O2 K C (rIxL K) (.cel i) (.d (.int z)) cs k := fun F as H v u Q w r1 r2 q => by
  cases r1 with | @cel _ p qs hp =>
  obtain ⟨g1, g2, g3⟩ := w.grid hp h1
  have hj : j ∈ ix := by
    unfold atI at h2
    obtain ⟨n, _, hn⟩ := Option.bind_eq_some_iff.mp h2
    exact List.mem_of_getElem? hn
  refine ⟨p, rowsV qs ix, z, .ref (qs.getD j 0), rfl, r2.int, SqL.of g1, ?_, q.now h w (row_at hp g3 (g2 j hj))⟩
  rw [rowsV, atI_map, h2]; rfl
theorem on_lenG {i : Nat} {ix : List Nat} {rows : List (List PyData)} (h1 : cs[i]? = some (.g ix rows)) (h : k (.d (.int ix.length)) cs) : On K C (rLenY K) [.cel i] cs k := fun F as H vs Q w r q => by
  cases r with | cons r r2 =>
  cases r2
  cases r with | @cel _ p qs hp =>
  obtain ⟨g1, _, _⟩ := w.grid hp h1
  exact ⟨_, ix.length, rfl, .inl ⟨_, SqL.of g1, by rw [rowsV, List.length_map]⟩, q.now h w (.d (.int _))⟩
theorem GridOk.set : ∀ {qs : List Addr} {rs : List (List PyData)} {j : Nat} {q : Addr} {vs : List V} {r : List PyData}, GridOk K F H qs rs → qs.Nodup → qs[j]? = some q → DpAll K F vs r → GridOk K F (upd H q (.lst vs)) qs (rs.set j r)
  | _, _, _, _, _, _, .nil, _, h, _ => by simp at h
  | q0 :: qs, _, 0, q, vs, r, .cons h1 h2 h3, nd, h, hr => by
    simp at h; subst h
    have n := List.nodup_cons.mp nd
    exact .cons upd_same hr (h3.mono (Same.refl F) fun b hb o ho => by
      have ne : b ≠ q0 := fun z => n.1 (by rw [← z]; exact hb)
      rw [upd_ne ne]; exact ho)
  | q0 :: qs, _, j + 1, q, vs, r, .cons h1 h2 h3, nd, h, hr => by
    have n := List.nodup_cons.mp nd
    have hq : qs[j]? = some q := by simpa using h
    have ne : q0 ≠ q := fun z => n.1 (by rw [z]; exact List.mem_of_getElem? hq)
    exact .cons (by rw [upd_ne ne]; exact h1) h2 (GridOk.set h3 n.2 hq hr)
theorem GridOk.snoc : ∀ {qs : List Addr} {rs : List (List PyData)} {q : Addr} {vs : List V} {r : List PyData}, GridOk K F H qs rs → H q = some (.lst vs) → DpAll K F vs r → GridOk K F H (qs ++ [q]) (rs ++ [r])
  | _, _, _, _, _, .nil, h, hr => .cons h hr .nil
  | _, _, _, _, _, .cons h1 h2 h3, h, hr => .cons h1 h2 (GridOk.snoc h3 h hr)
def Cell.rows : Cell → Option (List (List PyData))
  | .g _ r => some r
  | .m _ _ r => some r
  | _ => none
def Cell.setRows : Cell → List (List PyData) → Cell
  | .g ix _, r => .g ix r
  | .m lk ks _, r => .m lk ks r
  | c, _ => c
theorem Wd.setRow (w : Wd K C F as cs H) {i j : Nat} {c : Cell} {rows : List (List PyData)} {row : List PyData} {p q : Addr} {qs : List Addr} {vs : List V} (hp : as[i]? = some (p :: qs)) (hc : cs[i]? = some c) (hr : c.rows = some rows) (hq : qs[j]? = some q) (hv : DpAll K F vs row) :
    Wd K C F as (cs.set i (c.setRows (rows.set j row))) (upd H q (.lst vs)) ∧ Stp as.length F as H F as (upd H q (.lst vs)) := by
  have nd := List.nodup_cons.mp (w.nd i _ hp)
  have hqm := List.mem_of_getElem? hq
  have npq : p ≠ q := fun z => nd.1 (z ▸ hqm)
  refine w.put hp (List.mem_cons_of_mem _ hqm) trivial ?_
  cases w.ok i _ _ hp hc with
  | g h1 h2 h3 =>
    cases hr
    exact .g (by rw [upd_ne npq]; exact h1) (fun x hx => by rw [List.length_set]; exact h2 x hx) (h3.set nd.2 hq hv)
  | m h1 h2 h3 =>
    cases hr
    exact .m (by rw [upd_ne npq]; exact h1) (fun x hx => by rw [List.length_set]; exact h2 x hx) (h3.set nd.2 hq hv)
  | _ => cases hr
def IsSubG (x z y : AV) (cs : List Cell) (f : List Cell → Prop) : Prop := ∃ (i j : Nat) (c : Cell) (rows : List (List PyData)) (row : List PyData) (l : Int) (m : Nat) (d : PyData), x = .sub i j ∧ z = .d (.int l) ∧ y = .d d ∧ cs[i]? = some c ∧ c.rows = some rows ∧ rows[j]? = some row ∧ ixN row.length l = some m ∧ f (cs.set i (c.setRows (rows.set j (row.set m d))))
/-- line[z] = y, line a row -/
theorem eg_subG {n : Nat} {y : AV} {to ti : TE} {kg : AEnv → List Cell → Prop} (h : Ev K C E cs to fun x cs1 => Ev K C E cs1 ti fun z cs2 => IsSubG x z y cs2 fun cs3 => kg E cs3) :
    Eg K C n E y cs (gSub to ti rSetL) kg := fun F as H σ v Q hn w e r q => by
  refine h F as H σ _ w e fun x cs1 o F1 as1 H1 h1 s1 w1 r1 => ?_
  refine h1 F1 as1 H1 σ _ w1 (e.mono s1.f s1.pre) fun z cs2 u F2 as2 H2 ⟨i, j, c, rows, row, l, m, d, hx, hz, hy, hc, hr, hw, hj, h2⟩ s2 w2 r2 => ?_
  subst hx; subst hz; subst hy
  have r1' := r1.mono s2.f s2.pre
  have s12 := s1.tr s2
  have r' := r.mono s12.f s12.pre
  cases r1' with | @sub _ _ q0 own hp hq =>
  cases r' with | d r' =>
  have hn' : n ≤ as.length := by rw [w.len]; exact hn
  obtain ⟨p, qs, rfl⟩ : ∃ p qs, own = p :: qs := by
    cases own with
    | nil => simp at hq
    | cons p qs => exact ⟨p, qs, rfl⟩
  have hq' : qs[j]? = some q0 := by simpa using hq
  obtain ⟨vs, g1, g2⟩ : ∃ vs, H2 q0 = some (.lst vs) ∧ DpAll K F2 vs row := by
    cases w2.ok i _ _ hp hc with
    | g h1 h2 h3 => cases hr; exact h3.get hq' hw
    | m h1 h2 h3 => cases hr; exact h3.get hq' hw
    | _ => cases hr
  obtain ⟨w3, s3⟩ := w2.setRow (vs := vs.set m v) hp hc hr hq' (DpAll.setD m g2 r')
  refine ⟨_, vs, l, m, rfl, r2.int, g1, by rw [g2.length]; exact hj, ?_⟩
  exact q _ _ F2 as2 _ σ h2 ((s12.weak hn').trans (s3.weak (Nat.le_trans hn' s12.pre.len))) w3 ((e.mono s12.f s12.pre))
/-! ### a row more -/
theorem set_get {α : Type} {l : List α} {i j : Nat} {a x : α} (h : (l.set i a)[j]? = some x) : (j = i ∧ x = a ∧ i < l.length) ∨ (j ≠ i ∧ l[j]? = some x) := by
  rw [List.getElem?_set] at h
  by_cases e : i = j
  · subst e
    rw [if_pos rfl] at h
    split at h
    · exact .inl ⟨rfl, (Option.some.inj h).symm, by assumption⟩
    · cases h
  · rw [if_neg e] at h
    exact .inr ⟨fun z => e z.symm, h⟩
theorem Wd.grow (w : Wd K C F as cs H) {i : Nat} {p q : Addr} {qs : List Addr} {vs : List V} {o : HO} {c : Cell} (hp : as[i]? = some (p :: qs)) (hq : H q = none) (ho : NoTup o) (hc : CellOk K C F (as.set i (p :: (qs ++ [q]))) (upd (upd H q (.lst vs)) p o) (p :: (qs ++ [q])) c) :
    Wd K C F (as.set i (p :: (qs ++ [q]))) (cs.set i c) (upd (upd H q (.lst vs)) p o) ∧ Stp as.length F as H F (as.set i (p :: (qs ++ [q]))) (upd (upd H q (.lst vs)) p o) := by
  have hi := (List.getElem?_eq_some_iff.mp hp).1
  have hpd := w.dis i _ hp p (by simp)
  have npq : p ≠ q := fun z => hpd.2 (z ▸ hq)
  have hF : F q = none := w.fro.free hq
  have pre : Pre as (as.set i (p :: (qs ++ [q]))) := fun j own h => by
    by_cases e : j = i
    · subst e
      rw [hp] at h; cases h
      exact ⟨[q], by rw [List.getElem?_set, if_pos rfl, if_pos hi]; rfl⟩
    · exact ⟨[], by rw [List.getElem?_set, if_neg (fun z => e z.symm), List.append_nil]; exact h⟩
  have ne : ∀ {b : Addr}, b ≠ p → b ≠ q → upd (upd H q (.lst vs)) p o b = H b := fun h1 h2 => by rw [upd_ne h1, upd_ne h2]
  have keepB : ∀ {b : Addr} {u : HO}, H b = some u → b ≠ p → upd (upd H q (.lst vs)) p o b = some u := fun hb hn => by rw [ne hn (fun z => by rw [z, hq] at hb; cases hb)]; exact hb
  have mem : ∀ {b : Addr}, b ∈ p :: (qs ++ [q]) → b ∈ p :: qs ∨ b = q := fun h => by
    simp only [List.mem_cons, List.mem_append, List.not_mem_nil, or_false] at h ⊢
    rcases h with h | h | h
    · exact .inl (.inl h)
    · exact .inl (.inr h)
    · exact .inr h
  have there : ∀ {b : Addr}, H b ≠ none → upd (upd H q (.lst vs)) p o b ≠ none := fun {b} hb => by
    by_cases e : b = p
    · subst e; rw [upd_same]; simp
    · rw [upd_ne e]
      by_cases e2 : b = q
      · subst e2; rw [upd_same]; simp
      · rw [upd_ne e2]; exact hb
  refine ⟨⟨fun b u h => ?_, fun j own h b hb => ?_, fun j l own own' h h' hjl b hb hb' => ?_, fun j own h => ?_, by rw [List.length_set, List.length_set, w.len], fun j own d h hd => ?_, fun j own h b hb u hu => ?_, fun b u h n => ?_⟩, ⟨Same.refl F, fun j _ own h => pre j own h, fun b u h n => ?_, fun b h => ?_, fun b u h => .inl h, fun b ⟨j, own, h, hb⟩ => ?_⟩⟩
  · exact keepB (w.fro b u h) (fun z => by rw [z, hpd.1] at h; cases h)
  · rcases set_get h with ⟨rfl, rfl, _⟩ | ⟨hj, h⟩
    · rcases mem hb with hb | rfl
      · exact ⟨(w.dis _ _ hp b hb).1, there (w.dis _ _ hp b hb).2⟩
      · exact ⟨hF, by rw [upd_ne (Ne.symm npq), upd_same]; simp⟩
    · exact ⟨(w.dis j own h b hb).1, there (w.dis j own h b hb).2⟩
  · rcases set_get h with ⟨e1, e2, _⟩ | ⟨hj, g⟩
    · rcases set_get h' with ⟨e3, e4, _⟩ | ⟨hl, g'⟩
      · exact hjl (e1.trans e3.symm)
      · rw [e2] at hb
        rcases mem hb with hb | hb
        · exact w.sep _ _ _ _ hp g' (fun z => hl z.symm) b hb hb'
        · exact (w.dis _ _ g' b hb').2 (by rw [hb]; exact hq)
    · rcases set_get h' with ⟨e3, e4, _⟩ | ⟨hl, g'⟩
      · rw [e4] at hb'
        rcases mem hb' with hb' | hb'
        · exact w.sep _ _ _ _ g hp hj b hb hb'
        · exact (w.dis _ _ g b hb).2 (by rw [hb']; exact hq)
      · exact w.sep _ _ _ _ g g' hjl b hb hb'
  · rcases set_get h with ⟨rfl, rfl, _⟩ | ⟨hj, h⟩
    · have nd := w.nd _ _ hp
      show ((p :: qs) ++ [q]).Nodup
      rw [List.nodup_append]
      exact ⟨nd, by simp, fun a ha b hb e => by
        rw [List.mem_singleton.mp hb] at e
        exact (w.dis _ _ hp a ha).2 (e ▸ hq)⟩
    · exact w.nd _ _ h
  · rcases set_get h with ⟨rfl, rfl, _⟩ | ⟨hj, h⟩
    · rcases set_get hd with ⟨_, rfl, _⟩ | ⟨hl, _⟩
      · exact hc
      · exact absurd rfl hl
    · rcases set_get hd with ⟨rfl, _, _⟩ | ⟨hl, hd⟩
      · exact absurd rfl hj
      · exact (w.ok j own d h hd).mono (Same.refl F) pre fun b hb u hu => keepB hu (fun z => w.sep _ _ _ _ h hp hj b hb (by rw [z]; simp))
  · by_cases e : b = p
    · subst e; rw [upd_same] at hu; cases hu; exact ho
    · rw [upd_ne e] at hu
      by_cases e2 : b = q
      · subst e2; rw [upd_same] at hu; cases hu; exact trivial
      · rw [upd_ne e2] at hu
        rcases set_get h with ⟨rfl, rfl, _⟩ | ⟨hj, h⟩
        · rcases mem hb with hb | rfl
          · exact w.mu _ _ hp b hb u hu
          · exact absurd rfl e2
        · exact w.mu _ _ h b hb u hu
  · by_cases e : b = p
    · subst e; rw [upd_same] at h; cases h; exact absurd ho n
    · rw [upd_ne e] at h
      by_cases e2 : b = q
      · subst e2; rw [upd_same] at h; cases h; exact absurd trivial n
      · rw [upd_ne e2] at h; exact w.tp b u h n
  · exact keepB h (fun z => n ⟨i, _, hp, by rw [z]; simp⟩)
  · by_cases e : b = p
    · subst e; rw [upd_same] at h; cases h
    · rw [upd_ne e] at h
      by_cases e2 : b = q
      · subst e2; exact hq
      · rw [upd_ne e2] at h; exact h
  · rcases set_get h with ⟨rfl, rfl, _⟩ | ⟨hj, h⟩
    · rcases mem hb with hb | rfl
      · exact .inl ⟨_, _, hp, hb⟩
      · exact .inr hq
    · exact .inl ⟨j, own, h, hb⟩
end
end Y

/-! # Pure states: rows put in, dicts -/
namespace Y
open PySem L2
section
variable {K : PySem.W.Frag} {C : Addr} {F F' H H' : Hp} {as as' : Own} {cs cs' cs1 : List Cell} {E : AEnv} {k : AV → List Cell → Prop} {ta tb te tc td ty : TE} {tas tar : TA} {x y : AV}
theorem getD_snoc {qs : List Addr} {q : Addr} {j : Nat} (h : j < qs.length) : (qs ++ [q]).getD j 0 = qs.getD j 0 := by
  rw [List.getD_eq_getElem?_getD, List.getD_eq_getElem?_getD, List.getElem?_append_left h]
theorem getD_last {qs : List Addr} {q : Addr} : (qs ++ [q]).getD qs.length 0 = q := by
  rw [List.getD_eq_getElem?_getD, List.getElem?_append_right (Nat.le_refl _)]; simp
theorem rowsV_snoc {qs : List Addr} {q : Addr} {ix : List Nat} (h : ∀ j ∈ ix, j < qs.length) : rowsV (qs ++ [q]) (ix ++ [qs.length]) = rowsV qs ix ++ [.ref q] := by
  unfold rowsV
  rw [List.map_append]
  congr 1
  · exact List.map_congr_left fun j hj => by rw [getD_snoc (h j hj)]
  · simp
theorem GridOk.put {p q : Addr} {qs : List Addr} {rs : List (List PyData)} {vs : List V} {r : List PyData} {o : HO} (g : GridOk K F H qs rs) (hp : p ∉ qs) (hq : H q = none) (npq : p ≠ q) (hr : DpAll K F vs r) : GridOk K F (upd (upd H q (.lst vs)) p o) (qs ++ [q]) (rs ++ [r]) :=
  GridOk.snoc (g.mono (Same.refl F) fun b hb u hu => by
    have n1 : b ≠ p := fun z => hp (by rw [← z]; exact hb)
    have n2 : b ≠ q := fun z => by rw [z, hq] at hu; cases hu
    rw [upd_ne n1, upd_ne n2]; exact hu) (by rw [upd_ne (Ne.symm npq), upd_same]) hr
/-- olds.append([..]) -/
theorem ev_appRow (h : Ev K C E cs te fun x cs1 => TyA K C "list" x cs1 ∧ Evs K C E cs1 tas fun xs cs2 => ∃ (i : Nat) (ix : List Nat) (rows : List (List PyData)) (ds : List PyData), x = .cel i ∧ cs2[i]? = some (.g ix rows) ∧ unD xs = some ds ∧ ds.length ≤ 100000 ∧ ix.length < 100000 ∧
    k (.d .none) (cs2.set i (.g (ix ++ [rows.length]) (rows ++ [ds])))) : Ev K C E cs (tBM K "list" rAppend te (tCons (tLst tas) tNil)) k := fun F as H σ Q w e z => by
  refine h F as H σ _ w e fun x cs1 v F1 as1 H1 ⟨ht, h1⟩ s1 w1 r1 => ⟨ht F1 as1 H1 v w1 r1, ?_⟩
  refine h1 F1 as1 H1 σ _ w1 (e.mono s1.f s1.pre) fun xs cs2 vs F2 as2 H2 ⟨i, ix, rows, ds, hx, hc, hd, hl, hl2, hk⟩ s2 w2 r2 => ?_
  subst hx
  have r1' := r1.mono s2.f s2.pre
  cases r1' with | @cel _ p qs hp =>
  obtain ⟨g1, g2, g3⟩ := w2.grid hp hc
  have rd := ARs.toData ((unD_eq hd) ▸ r2)
  refine ⟨line_of (by rw [← r2.length, unD_eq hd, List.length_map]; exact hl), fun q hq => ?_⟩
  have hpd := w2.dis i _ hp p (by simp)
  have npq : p ≠ q := fun z => hpd.2 (z ▸ hq)
  have nd := List.nodup_cons.mp (w2.nd i _ hp)
  have lq := g3.len
  have g2' : ∀ j ∈ ix, j < qs.length := fun j hj => by rw [lq]; exact g2 j hj
  refine ⟨p, rowsV qs ix, .ref q, rfl, rfl, by rw [upd_ne npq]; exact g1, line_lt (by rw [rowsV, List.length_map]; exact hl2), ?_⟩
  obtain ⟨w3, s3⟩ := w2.grow (vs := vs) (o := .lst (rowsV qs ix ++ [.ref q])) (c := .g (ix ++ [rows.length]) (rows ++ [ds])) hp hq trivial
    (.g (by rw [upd_same, ← lq, rowsV_snoc g2']) (fun j hj => by
      rw [List.length_append]
      rcases List.mem_append.mp hj with hj | hj
      · exact Nat.lt_of_lt_of_le (g2 j hj) (Nat.le_add_right _ _)
      · rw [List.mem_singleton.mp hj]; exact Nat.lt_succ_self _) (g3.put nd.1 hq npq rd))
  exact z _ _ _ F2 _ _ hk ((s1.tr s2).tr s3) w3 (.d .non)
/-! ### keys -/
def keyA : AV → Option Key
  | .d (.int i) => some (.inl i)
  | .d (.str s) => some (.inr s)
  | _ => none
theorem keyA_at {κ : Key} {v : V} (h : keyA x = some κ) (r : AR K C F as x v) : v = kV κ := by
  cases x with
  | d d => cases d with
    | int i => simp [keyA] at h; subst h; exact r.int
    | str s => simp [keyA] at h; subst h; exact r.str
    | _ => simp [keyA] at h
  | _ => simp [keyA] at h
def lookG {β : Type} (xs : List (Key × β)) (κ : Key) : Option β := (xs.find? fun kv => decide (kv.1 = κ)).map (·.2)
def putG {β : Type} (xs : List (Key × β)) (κ : Key) (v : β) : List (Key × β) := if (xs.any fun kv => decide (kv.1 = κ)) = true then xs.map (fun kv => if kv.1 = κ then (kv.1, v) else kv) else xs ++ [(κ, v)]
def dropG {β : Type} (xs : List (Key × β)) (κ : Key) : List (Key × β) := xs.filter fun kv => decide (kv.1 ≠ κ)
theorem look_rows {qs : List Addr} {κ : Key} : ∀ {ks : List (Key × Nat)}, valV (rowsK qs ks) κ = (lookG ks κ).map fun j => V.ref (qs.getD j 0)
  | [] => rfl
  | (a, j) :: ks => by
    have ih := look_rows (qs := qs) (κ := κ) (ks := ks)
    unfold valV lookG rowsK at ih ⊢
    rw [List.map_cons, List.find?_cons, List.find?_cons]
    by_cases c : a = κ
    · simp [c]
    · simp only [c, decide_false]; exact ih
theorem look_avs {κ : Key} : ∀ {xs : List (Key × AV)} {kvs : List (Key × V)}, kvs.map Prod.fst = xs.map Prod.fst → ARs K C F as (xs.map Prod.snd) (kvs.map Prod.snd) →
    (lookG xs κ = none → valV kvs κ = none) ∧ ∀ z, lookG xs κ = some z → ∃ v, valV kvs κ = some v ∧ AR K C F as z v
  | [], [], _, _ => ⟨fun _ => rfl, fun z h => by simp [lookG] at h⟩
  | [], _ :: _, h, _ => by simp at h
  | _ :: _, [], h, _ => by simp at h
  | (a, x) :: xs, (b, v) :: kvs, h, r => by
    simp only [List.map_cons, List.cons.injEq] at h
    obtain ⟨h1, h2⟩ := h
    cases r with | cons r1 r2 =>
    obtain ⟨i1, i2⟩ := look_avs (κ := κ) h2 r2
    subst h1
    unfold lookG valV at i1 i2 ⊢
    rw [List.find?_cons, List.find?_cons]
    by_cases c : b = κ
    · simp only [c, decide_true, Option.map_some]
      exact ⟨fun z => by simp at z, fun z hz => ⟨v, rfl, by cases hz; exact r1⟩⟩
    · simp only [c, decide_false]
      exact ⟨i1, i2⟩
theorem lookG_mem {β : Type} {ks : List (Key × β)} {κ : Key} {j : β} (h : lookG ks κ = some j) : (κ, j) ∈ ks := by
  unfold lookG at h
  obtain ⟨a, h1, h2⟩ := Option.map_eq_some_iff.mp h
  have h3 := List.mem_of_find?_eq_some h1
  have h4 := List.find?_some h1
  have h5 : a.1 = κ := of_decide_eq_true h4
  rw [← h5, ← h2]; exact h3
/-- the keys of a dict -/
def keysOf (x : AV) (cs : List Cell) : Option (List Key) := match x with
  | .cel i => match cs[i]? with
    | some (.k _ xs) => some (xs.map Prod.fst)
    | some (.m _ ks _) => some (ks.map Prod.fst)
    | _ => none
  | _ => none
theorem rd_lk {p : Addr} {lk : Option Obj} {u : HO} (h : H p = some (lkO lk u)) : Rd H p u := by
  cases lk with
  | none => exact .inl h
  | some o => exact .inr ⟨o, h⟩
theorem rowsK_fst {qs : List Addr} {ks : List (Key × Nat)} : (rowsK qs ks).map Prod.fst = ks.map Prod.fst := by simp [rowsK]
theorem keysOf_at {ls : List Key} {v : V} (h : keysOf x cs = some ls) (w : Wd K C F as cs H) (r : AR K C F as x v) : ∃ p kvs, v = .ref p ∧ Rd H p (.dK kvs) ∧ kvs.map Prod.fst = ls := by
  cases x with
  | cel i =>
    cases r with | @cel _ p qs hp =>
    simp only [keysOf] at h
    cases e : cs[i]? with
    | none => rw [e] at h; cases h
    | some c =>
      rw [e] at h
      cases c with
      | k lk xs =>
        simp at h
        obtain ⟨_, kvs, _, h1, h2, _⟩ := w.dkt hp e
        exact ⟨p, kvs, rfl, rd_lk h1, h2.trans h⟩
      | m lk ks rows =>
        simp at h
        obtain ⟨h1, _, _⟩ := w.drw hp e
        exact ⟨p, _, rfl, rd_lk h1, rowsK_fst.trans h⟩
      | _ => simp at h
  | _ => simp [keysOf] at h
def hasK (ls : List Key) (κ : Key) : Bool := ls.any fun a => decide (a = κ)
theorem val_mem {kvs : List (Key × V)} {κ : Key} : (valV kvs κ).isSome = hasK (kvs.map Prod.fst) κ := by
  rw [← valV_any, hasK, List.any_map]; rfl
/-- key in d -/
theorem ev_din (h : Ev K C E cs ty fun y cs1 => Ev K C E cs1 td fun x cs2 => ∃ κ ls, keyA y = some κ ∧ keysOf x cs2 = some ls ∧ k (.d (.bool (hasK ls κ))) cs2) : Ev K C E cs (tDIn ty td) k := fun F as H σ Q w e z => by
  refine h F as H σ _ w e fun y cs1 v F1 as1 H1 h1 s1 w1 r1 => ?_
  refine h1 F1 as1 H1 σ _ w1 (e.mono s1.f s1.pre) fun x cs2 u F2 as2 H2 ⟨κ, ls, hy, hx, hk⟩ s2 w2 r2 => ?_
  obtain ⟨p, kvs, rfl, hr, rfl⟩ := keysOf_at hx w2 r2
  obtain rfl := keyA_at hy r1
  refine ⟨p, _, rfl, .inl ⟨kvs, κ, hr, rfl, rfl⟩, ?_⟩
  rw [val_mem]
  exact z _ cs2 _ F2 as2 H2 hk (s1.tr s2) w2 (.d (.bl _))
theorem ev_dnin (h : Ev K C E cs ty fun y cs1 => Ev K C E cs1 td fun x cs2 => ∃ κ ls, keyA y = some κ ∧ keysOf x cs2 = some ls ∧ k (.d (.bool (!hasK ls κ))) cs2) : Ev K C E cs (tDNotIn ty td) k := fun F as H σ Q w e z => by
  refine h F as H σ _ w e fun y cs1 v F1 as1 H1 h1 s1 w1 r1 => ?_
  refine h1 F1 as1 H1 σ _ w1 (e.mono s1.f s1.pre) fun x cs2 u F2 as2 H2 ⟨κ, ls, hy, hx, hk⟩ s2 w2 r2 => ?_
  obtain ⟨p, kvs, rfl, hr, rfl⟩ := keysOf_at hx w2 r2
  obtain rfl := keyA_at hy r1
  refine ⟨p, _, rfl, .inl ⟨kvs, κ, hr, rfl, rfl⟩, ?_⟩
  rw [val_mem]
  exact z _ cs2 _ F2 as2 H2 hk (s1.tr s2) w2 (.d (.bl _))
/-- d[key], the values named -/
theorem ev_dgetK (h : Ev K C E cs td fun x cs1 => Ev K C E cs1 ty fun y cs2 => ∃ i lk xs κ z, x = .cel i ∧ cs2[i]? = some (.k lk xs) ∧ keyA y = some κ ∧ lookG xs κ = some z ∧ k z cs2) : Ev K C E cs (tDGet td ty) k := fun F as H σ Q w e q => by
  refine h F as H σ _ w e fun x cs1 v F1 as1 H1 h1 s1 w1 r1 => ?_
  refine h1 F1 as1 H1 σ _ w1 (e.mono s1.f s1.pre) fun y cs2 u F2 as2 H2 ⟨i, lk, xs, κ, z, hx, hc, hy, hz, hk⟩ s2 w2 r2 => ?_
  subst hx
  have r1' := r1.mono s2.f s2.pre
  cases r1' with | @cel _ p qs hp =>
  obtain ⟨_, kvs, _, g1, g2, g3⟩ := w2.dkt hp hc
  obtain rfl := keyA_at hy r2
  obtain ⟨v, v1, v2⟩ := (look_avs (κ := κ) g2 g3).2 z hz
  exact ⟨p, v, rfl, .inl ⟨kvs, κ, rd_lk g1, rfl, v1.symm⟩, q _ cs2 _ F2 as2 H2 hk (s1.tr s2) w2 v2⟩
/-- d[key], a row -/
theorem ev_dgetM (h : Ev K C E cs td fun x cs1 => Ev K C E cs1 ty fun y cs2 => ∃ i lk ks rows κ j, x = .cel i ∧ cs2[i]? = some (.m lk ks rows) ∧ keyA y = some κ ∧ lookG ks κ = some j ∧ k (.sub i j) cs2) : Ev K C E cs (tDGet td ty) k := fun F as H σ Q w e q => by
  refine h F as H σ _ w e fun x cs1 v F1 as1 H1 h1 s1 w1 r1 => ?_
  refine h1 F1 as1 H1 σ _ w1 (e.mono s1.f s1.pre) fun y cs2 u F2 as2 H2 ⟨i, lk, ks, rows, κ, j, hx, hc, hy, hz, hk⟩ s2 w2 r2 => ?_
  subst hx
  have r1' := r1.mono s2.f s2.pre
  cases r1' with | @cel _ p qs hp =>
  obtain ⟨g1, g2, g3⟩ := w2.drw hp hc
  obtain rfl := keyA_at hy r2
  refine ⟨p, .ref (qs.getD j 0), rfl, .inl ⟨_, κ, rd_lk g1, rfl, by rw [look_rows, hz]; rfl⟩, q _ cs2 _ F2 as2 H2 hk (s1.tr s2) w2 (row_at hp g3 (g2 (κ, j) (lookG_mem hz)))⟩
/-- {} -/
theorem ev_dnewK (h : k (.cel cs.length) (cs ++ [.k none []])) : Ev K C E cs tDNewK k := fun F as H σ Q w e z p hp => Kt.cell (fun a b c _ _ _ g t => z a b c _ _ _ g t) w hp trivial (.k (lk := none) (kvs := []) trivial upd_same rfl .nil) h
theorem ev_dnewM (h : k (.cel cs.length) (cs ++ [.m none [] []])) : Ev K C E cs tDNewK k := fun F as H σ Q w e z p hp => Kt.cell (fun a b c _ _ _ g t => z a b c _ _ _ g t) w hp trivial (.m (qs := []) upd_same (fun x hx => absurd hx List.not_mem_nil) .nil) h
end
end Y

/-! # Pure states: dicts written, locked, walked -/
namespace Y
open PySem L2
section
variable {K : PySem.W.Frag} {C : Addr} {F F' H H' : Hp} {as as' : Own} {cs cs' cs1 : List Cell} {E : AEnv} {k : AV → List Cell → Prop} {ta tb te tc td ty tv : TE} {tas tar : TA} {x y : AV} {n : Nat} {D : AEnds}
theorem any_fst {β : Type} {kvs : List (Key × β)} {κ : Key} : (kvs.any fun kv => decide (kv.1 = κ)) = hasK (kvs.map Prod.fst) κ := by
  rw [hasK, List.any_map]; rfl
theorem put_avs {κ : Key} {v : V} (r : AR K C F as x v) : ∀ {xs : List (Key × AV)} {kvs : List (Key × V)}, kvs.map Prod.fst = xs.map Prod.fst → ARs K C F as (xs.map Prod.snd) (kvs.map Prod.snd) →
    (putK kvs κ v).map Prod.fst = (putG xs κ x).map Prod.fst ∧ ARs K C F as ((putG xs κ x).map Prod.snd) ((putK kvs κ v).map Prod.snd) := by
  intro xs kvs h1 h2
  unfold putK putG
  rw [any_fst, any_fst, h1]
  cases hasK (xs.map Prod.fst) κ with
  | true =>
    rw [if_pos rfl, if_pos rfl]
    induction xs generalizing kvs with
    | nil =>
      cases kvs with
      | nil => exact ⟨rfl, .nil⟩
      | cons a kvs => simp at h1
    | cons a xs ih =>
      cases kvs with
      | nil => simp at h1
      | cons b kvs =>
        simp only [List.map_cons, List.cons.injEq] at h1
        cases h2 with | cons r1 r2 =>
        obtain ⟨i1, i2⟩ := ih h1.2 r2
        simp only [List.map_cons]
        by_cases c : a.1 = κ
        · rw [if_pos c, if_pos (h1.1.trans c)]
          exact ⟨by rw [i1, h1.1], .cons r i2⟩
        · rw [if_neg c, if_neg (by rw [h1.1]; exact c)]
          exact ⟨by rw [i1, h1.1], .cons r1 i2⟩
  | false =>
    rw [if_neg (by decide), if_neg (by decide), List.map_append, List.map_append, List.map_append, List.map_append, h1]
    exact ⟨rfl, h2.append (.cons r .nil)⟩
/-- d[key] = value, the values named -/
theorem ex_dputK (h : Ev K C E cs tv fun z cs1 => Ev K C E cs1 td fun x cs2 => Ev K C E cs2 ty fun y cs3 => ∃ i xs κ, x = .cel i ∧ cs3[i]? = some (.k none xs) ∧ keyA y = some κ ∧ xs.length < 100000 ∧ D.nx E (cs3.set i (.k none (putG xs κ z)))) : Ex K C n E cs (sDPut td ty tv) D := fun F as H σ Dc hn w e d => by
  refine h F as H σ _ w e fun z cs1 v F1 as1 H1 h1 s1 w1 r1 => ?_
  refine h1 F1 as1 H1 σ _ w1 (e.mono s1.f s1.pre) fun x cs2 u F2 as2 H2 h2 s2 w2 r2 => ?_
  have s12 := s1.tr s2
  refine h2 F2 as2 H2 σ _ w2 (e.mono s12.f s12.pre) fun y cs3 t F3 as3 H3 ⟨i, xs, κ, hx, hc, hy, hl, hk⟩ s3 w3 r3 => ?_
  subst hx
  have r2' := r2.mono s3.f s3.pre
  have s23 := s2.tr s3
  have r1' := r1.mono s23.f s23.pre
  cases r2' with | @cel _ p qs hp =>
  obtain ⟨rfl, kvs, _, g1, g2, g3⟩ := w3.dkt hp hc
  obtain rfl := keyA_at hy r3
  obtain ⟨p1, p2⟩ := put_avs (κ := κ) r1' g2 g3
  obtain ⟨w4, s4⟩ := w3.put (c := .k none (putG xs κ z)) (o := .dK (putK kvs κ v)) hp (by simp) trivial (.k (lk := none) trivial upd_same p1 p2)
  refine ⟨p, _, rfl, DPut.k g1 (line_lt (by rw [← List.length_map (f := Prod.fst), g2, List.length_map]; exact hl)), ?_⟩
  have sa := (s12.tr s3).tr s4
  exact d.nx E _ F3 as3 _ σ hk (sa.weak (by rw [w.len]; exact hn)) w4 (e.mono sa.f sa.pre)
theorem rowsK_put {qs : List Addr} {q : Addr} {ks : List (Key × Nat)} {κ : Key} (h : ∀ x ∈ ks, x.2 < qs.length) : rowsK (qs ++ [q]) (putG ks κ qs.length) = putK (rowsK qs ks) κ (.ref q) := by
  unfold putG putK
  rw [any_fst, any_fst, rowsK_fst]
  cases hasK (ks.map Prod.fst) κ with
  | true =>
    rw [if_pos rfl, if_pos rfl, rowsK, rowsK, List.map_map, List.map_map]
    refine List.map_congr_left fun a ha => ?_
    simp only [Function.comp]
    by_cases c : a.1 = κ
    · rw [if_pos c, if_pos c, getD_last]
    · rw [if_neg c, if_neg c, getD_snoc (h a ha)]
  | false =>
    rw [if_neg (by decide), if_neg (by decide), rowsK, List.map_append]
    congr 1
    · exact List.map_congr_left fun a ha => by rw [getD_snoc (h a ha)]
    · simp
/-- an expression that is a key and changes nothing -/
def PureK (K : PySem.W.Frag) (C : Addr) (E : AEnv) (ty : TE) (κ : Key) : Prop := ∀ (F : Hp) (as : Own) (σ : St) (H : Hp) (Q : VK), EnvR K C F as E σ → Q (kV κ) H → ty σ H Q
theorem pureK_var {j : Nat} {y : AV} {κ : Key} (h : E[j]? = some (some y)) (hk : keyA y = some κ) : PureK K C E (tVar j) κ := fun F as σ H Q e q => by
  obtain ⟨v, g, r⟩ := e.get j _ h
  obtain rfl := keyA_at hk r
  exact ⟨_, g, q⟩
theorem pureK_add {j : Nat} {a c : Int} (h : E[j]? = some (some (.d (.int a)))) : PureK K C E (tOp (rI0 fun i j => .int (i + j)) (tVar j) (tC (.int c))) (.inl (a + c)) := fun F as σ H Q e q => by
  obtain ⟨v, g, r⟩ := e.get j _ h
  have hv := r.int
  exact ⟨_, g, a, c, hv, rfl, q⟩
/-- d[key] = [..]: d is a name, the key changes nothing -/
theorem ex_dputRow {i : Nat} (h : Evs K C E cs tas fun xs cs2 => ∃ (a : Nat) (ks : List (Key × Nat)) (rows : List (List PyData)) (ds : List PyData) (κ : Key), E[i]? = some (some (.cel a)) ∧ PureK K C E ty κ ∧ cs2[a]? = some (.m none ks rows) ∧ unD xs = some ds ∧ ds.length ≤ 100000 ∧ ks.length < 100000 ∧
    D.nx E (cs2.set a (.m none (putG ks κ rows.length) (rows ++ [ds])))) : Ex K C n E cs (sDPut (tVar i) ty (tLst tas)) D := fun F as H σ Dc hn w e d => by
  refine h F as H σ _ w e fun xs cs2 vs F2 as2 H2 ⟨a, ks, rows, ds, κ, hi, hpk, hc, hd, hl, hl2, hk⟩ s2 w2 r2 => ?_
  have e2 := e.mono s2.f s2.pre
  obtain ⟨v1, g1, r1⟩ := e2.get i _ hi
  cases r1 with | @cel _ p qs hp =>
  obtain ⟨m1, m2, m3⟩ := w2.drw hp hc
  have rd := ARs.toData ((unD_eq hd) ▸ r2)
  refine ⟨line_of (by rw [← r2.length, unD_eq hd, List.length_map]; exact hl), fun q hq => ⟨_, g1, hpk _ _ _ _ _ e2 ⟨p, upd (upd H2 q (.lst vs)) p (.dK (putK (rowsK qs ks) κ (.ref q))), rfl, ?_⟩⟩⟩
  have hpd := w2.dis a _ hp p (by simp)
  have npq : p ≠ q := fun z => hpd.2 (z ▸ hq)
  have nd := List.nodup_cons.mp (w2.nd a _ hp)
  have lq := m3.len
  have m2' : ∀ x ∈ ks, x.2 < qs.length := fun x hx => by rw [lq]; exact m2 x hx
  have lput : ∀ x ∈ putG ks κ rows.length, x.2 < (rows ++ [ds]).length := fun x hx => by
    rw [List.length_append]
    unfold putG at hx
    split at hx
    · obtain ⟨b, hb, rfl⟩ := List.mem_map.mp hx
      split
      · exact Nat.lt_succ_self _
      · exact Nat.lt_of_lt_of_le (m2 b hb) (Nat.le_add_right _ _)
    · rcases List.mem_append.mp hx with hx | hx
      · exact Nat.lt_of_lt_of_le (m2 x hx) (Nat.le_add_right _ _)
      · rw [List.mem_singleton.mp hx]; exact Nat.lt_succ_self _
  obtain ⟨w3, s3⟩ := w2.grow (vs := vs) (o := .dK (putK (rowsK qs ks) κ (.ref q))) (c := .m none (putG ks κ rows.length) (rows ++ [ds])) hp hq trivial
    (.m (lk := none) (by rw [upd_same, ← lq, rowsK_put m2']; rfl) lput (m3.put nd.1 hq npq rd))
  have mm : H2 p = some (.dK (rowsK qs ks)) := m1
  refine ⟨DPut.k (by rw [upd_ne npq]; exact mm) (line_lt (by rw [rowsK, List.length_map]; exact hl2)), ?_⟩
  have sa := s2.tr s3
  exact d.nx E _ F2 _ _ σ hk (sa.weak (by rw [w.len]; exact hn)) w3 (e.mono sa.f sa.pre)
theorem drop_rows {qs : List Addr} {ks : List (Key × Nat)} {κ : Key} : dropK (rowsK qs ks) κ = rowsK qs (dropG ks κ) := by
  unfold dropK dropG rowsK
  rw [List.filter_map]; rfl
/-- d.pop(key), a row -/
theorem ev_dpopM (h : Ev K C E cs td fun x cs1 => (∃ ls, keysOf x cs1 = some ls) ∧ Ev K C E cs1 ty fun y cs2 => ∃ i ks rows κ j, x = .cel i ∧ cs2[i]? = some (.m none ks rows) ∧ keyA y = some κ ∧ lookG ks κ = some j ∧ k (.sub i j) (cs2.set i (.m none (dropG ks κ) rows))) : Ev K C E cs (tDPop1 td ty) k := fun F as H σ Q w e q => by
  refine h F as H σ _ w e fun x cs1 v F1 as1 H1 ⟨⟨ls, hls⟩, h1⟩ s1 w1 r1 => ?_
  obtain ⟨p0, kv0, rfl, hr0, _⟩ := keysOf_at hls w1 r1
  refine ⟨p0, rfl, .inl ⟨kv0, hr0⟩, ?_⟩
  refine h1 F1 as1 H1 σ _ w1 (e.mono s1.f s1.pre) fun y cs2 u F2 as2 H2 ⟨i, ks, rows, κ, j, hx, hc, hy, hz, hk⟩ s2 w2 r2 => ?_
  subst hx
  have r1' := r1.mono s2.f s2.pre
  cases r1' with | @cel _ p qs hp =>
  obtain ⟨g1, g2, g3⟩ := w2.drw hp hc
  obtain rfl := keyA_at hy r2
  have g1' : H2 p0 = some (.dK (rowsK qs ks)) := g1
  have nd := List.nodup_cons.mp (w2.nd i _ hp)
  obtain ⟨w3, s3⟩ := w2.put (p := p0) (c := .m none (dropG ks κ) rows) (o := .dK (dropK (rowsK qs ks) κ)) hp (by simp) trivial (.m (lk := none) (by rw [upd_same, drop_rows]; rfl) (fun x hx => g2 x ((List.mem_filter.mp hx).1)) (g3.mono (Same.refl F2) fun b hb o ho => by
    have ne : b ≠ p0 := fun z => nd.1 (by rw [← z]; exact hb)
    rw [upd_ne ne]; exact ho))
  exact ⟨_, κ, .ref (qs.getD j 0), g1', rfl, by rw [look_rows, hz]; rfl, q _ _ _ F2 as2 _ hk ((s1.tr s2).tr s3) w3 (row_at hp g3 (g2 (κ, j) (lookG_mem hz)))⟩
/-- a dict locked while a loop over it runs -/
theorem ex_lockK (m : Nat) (hnm : n ≤ m) (i : Nat) (hi : i < m) {xs : List (Key × AV)} (hm : m ≤ cs.length) (hc : cs[i]? = some (.k none xs)) {t : TS}
    (h : ∀ (od : Obj) (kv0 : List (Key × V)), Ex K C m E (cs.set i (.k (some (od, kv0)) xs)) t { nx := fun E' cs' => cs'[i]? = some (.k (some (od, kv0)) xs) ∧ D.nx E' (cs'.set i (.k none xs)), rt := fun x cs' => cs'[i]? = some (.k (some (od, kv0)) xs) ∧ D.rt x (cs'.set i (.k none xs)), bk := fun E' cs' => cs'[i]? = some (.k (some (od, kv0)) xs) ∧ D.bk E' (cs'.set i (.k none xs)), ct := fun E' cs' => cs'[i]? = some (.k (some (od, kv0)) xs) ∧ D.ct E' (cs'.set i (.k none xs)) }) :
    Ex K C n E cs (tLock t) D := fun F as H σ Dc hn w e d => by
  have hia : i < as.length := by rw [w.len]; omega
  obtain ⟨p, qs, hp⟩ : ∃ p qs, as[i]? = some (p :: qs) := by
    have h0 := List.getElem?_eq_getElem hia
    cases h1 : as[i] with
    | nil =>
      rw [h1] at h0
      cases w.ok i _ _ h0 hc
    | cons p qs => exact ⟨p, qs, by rw [h0, h1]⟩
  obtain ⟨rfl, kvs, _, g1, g2, g3⟩ := w.dkt hp hc
  refine ⟨p, .dK kvs, g1, trivial, fun od => ?_⟩
  obtain ⟨w1, s1⟩ := w.put (c := .k (some (od, kvs)) xs) (o := .frz od (.dK kvs)) hp (by simp) trivial (.k (lk := some (od, kvs)) rfl upd_same g2 g3)
  have hma : m ≤ as.length := by rw [w.len]; exact hm
  -- back again
  have back : ∀ {F' : Hp} {as' : Own} {cs' : List Cell} {H' : Hp}, cs'[i]? = some (.k (some (od, kvs)) xs) → Stp m F as (upd H p (.frz od (.dK kvs))) F' as' H' → Wd K C F' as' cs' H' → H' p = some (.frz od (.dK kvs)) ∧ Stp m F as H F' as' (upd H' p (.dK kvs)) ∧ Wd K C F' as' (cs'.set i (.k none xs)) (upd H' p (.dK kvs)) := fun {F' as' cs' H'} hc' s' w' => by
    obtain ⟨r, hr⟩ := s'.a i hi _ hp
    obtain ⟨hr0, kvs', e0, f1, f2, f3⟩ := w'.dkt (p := p) (qs := r) hr hc'
    subst hr0
    have e0 : kvs' = kvs := e0
    subst e0
    obtain ⟨w2, s2⟩ := w'.put (c := .k none xs) (o := .dK kvs') (own := [p]) hr (by simp) trivial (.k (lk := none) trivial upd_same f2 f3)
    have hm' : m ≤ as'.length := s'.len hma
    exact ⟨f1, ((s1.weak hma).trans s').trans (s2.weak hm'), w2⟩
  refine h od kvs F as _ σ _ (by rw [List.length_set]; exact hm) w1 e ⟨fun E' cs' F' as' H' σ' ⟨hc', g⟩ s' w' e' => ?_, fun x cs' F' as' H' v ⟨hc', g⟩ s' w' r' => ?_, fun E' cs' F' as' H' σ' ⟨hc', g⟩ s' w' e' => ?_, fun E' cs' F' as' H' σ' ⟨hc', g⟩ s' w' e' => ?_, fun _ _ _ _ _ _ _ _ _ h => h.elim⟩
  · obtain ⟨b1, b2, b3⟩ := back hc' s' w'
    exact ⟨b1, d.nx E' _ F' as' _ σ' g (b2.weak hnm) b3 e'⟩
  · obtain ⟨b1, b2, b3⟩ := back hc' s' w'
    exact ⟨b1, d.rt x _ F' as' _ v g (b2.weak hnm) b3 r'⟩
  · obtain ⟨b1, b2, b3⟩ := back hc' s' w'
    exact ⟨b1, d.bk E' _ F' as' _ σ' g (b2.weak hnm) b3 e'⟩
  · obtain ⟨b1, b2, b3⟩ := back hc' s' w'
    exact ⟨b1, d.ct E' _ F' as' _ σ' g (b2.weak hnm) b3 e'⟩
theorem ex_lockM (m : Nat) (hnm : n ≤ m) (i : Nat) (hi : i < m) {ks : List (Key × Nat)} {rows : List (List PyData)} (hm : m ≤ cs.length) (hc : cs[i]? = some (.m none ks rows)) {t : TS}
    (h : ∀ (od : Obj), Ex K C m E (cs.set i (.m (some od) ks rows)) t { nx := fun E' cs' => ∃ rows', cs'[i]? = some (.m (some od) ks rows') ∧ D.nx E' (cs'.set i (.m none ks rows')), rt := fun x cs' => ∃ rows', cs'[i]? = some (.m (some od) ks rows') ∧ D.rt x (cs'.set i (.m none ks rows')), bk := fun E' cs' => ∃ rows', cs'[i]? = some (.m (some od) ks rows') ∧ D.bk E' (cs'.set i (.m none ks rows')), ct := fun E' cs' => ∃ rows', cs'[i]? = some (.m (some od) ks rows') ∧ D.ct E' (cs'.set i (.m none ks rows')) }) :
    Ex K C n E cs (tLock t) D := fun F as H σ Dc hn w e d => by
  have hia : i < as.length := by rw [w.len]; omega
  obtain ⟨p, qs, hp⟩ : ∃ p qs, as[i]? = some (p :: qs) := by
    have h0 := List.getElem?_eq_getElem hia
    cases h1 : as[i] with
    | nil =>
      rw [h1] at h0
      cases w.ok i _ _ h0 hc
    | cons p qs => exact ⟨p, qs, by rw [h0, h1]⟩
  obtain ⟨g1, g2, g3⟩ := w.drw hp hc
  have nd := List.nodup_cons.mp (w.nd i _ hp)
  have lq := g3.len
  refine ⟨p, .dK (rowsK qs ks), g1, trivial, fun od => ?_⟩
  obtain ⟨w1, s1⟩ := w.put (p := p) (c := .m (some od) ks rows) (o := .frz od (.dK (rowsK qs ks))) hp (by simp) trivial (.m (lk := some od) upd_same g2 (g3.mono (Same.refl F) fun b hb o ho => by
    have ne : b ≠ p := fun z => nd.1 (by rw [← z]; exact hb)
    rw [upd_ne ne]; exact ho))
  have hma : m ≤ as.length := by rw [w.len]; exact hm
  have back : ∀ {F' : Hp} {as' : Own} {cs' : List Cell} {H' : Hp} {rows' : List (List PyData)}, cs'[i]? = some (.m (some od) ks rows') → Stp m F as (upd H p (.frz od (.dK (rowsK qs ks)))) F' as' H' → Wd K C F' as' cs' H' → H' p = some (.frz od (.dK (rowsK qs ks))) ∧ Stp m F as H F' as' (upd H' p (.dK (rowsK qs ks))) ∧ Wd K C F' as' (cs'.set i (.m none ks rows')) (upd H' p (.dK (rowsK qs ks))) := fun {F' as' cs' H' rows'} hc' s' w' => by
    obtain ⟨r, hr⟩ := s'.a i hi _ hp
    obtain ⟨f1, f2, f3⟩ := w'.drw (p := p) (qs := qs ++ r) hr hc'
    have er : rowsK (qs ++ r) ks = rowsK qs ks := List.map_congr_left fun x hx => by
      have : x.2 < qs.length := by rw [lq]; exact g2 x hx
      rw [List.getD_eq_getElem?_getD, List.getD_eq_getElem?_getD, List.getElem?_append_left this]
    rw [er] at f1
    have nd' := List.nodup_cons.mp (show (p :: (qs ++ r)).Nodup from w'.nd i _ hr)
    obtain ⟨w2, s2⟩ := w'.put (p := p) (c := .m none ks rows') (o := .dK (rowsK qs ks)) (own := p :: (qs ++ r)) hr (by simp) trivial (.m (lk := none) (by rw [upd_same, er]; rfl) f2 (f3.mono (Same.refl F') fun b hb o ho => by
      have ne : b ≠ p := fun z => nd'.1 (by rw [← z]; exact hb)
      rw [upd_ne ne]; exact ho))
    have hm' : m ≤ as'.length := s'.len hma
    exact ⟨f1, ((s1.weak hma).trans s').trans (s2.weak hm'), w2⟩
  refine h od F as _ σ _ (by rw [List.length_set]; exact hm) w1 e ⟨fun E' cs' F' as' H' σ' ⟨rs, hc', g⟩ s' w' e' => ?_, fun x cs' F' as' H' v ⟨rs, hc', g⟩ s' w' r' => ?_, fun E' cs' F' as' H' σ' ⟨rs, hc', g⟩ s' w' e' => ?_, fun E' cs' F' as' H' σ' ⟨rs, hc', g⟩ s' w' e' => ?_, fun _ _ _ _ _ _ _ _ _ h => h.elim⟩
  · obtain ⟨b1, b2, b3⟩ := back hc' s' w'
    exact ⟨b1, d.nx E' _ F' as' _ σ' g (b2.weak hnm) b3 e'⟩
  · obtain ⟨b1, b2, b3⟩ := back hc' s' w'
    exact ⟨b1, d.rt x _ F' as' _ v g (b2.weak hnm) b3 r'⟩
  · obtain ⟨b1, b2, b3⟩ := back hc' s' w'
    exact ⟨b1, d.bk E' _ F' as' _ σ' g (b2.weak hnm) b3 e'⟩
  · obtain ⟨b1, b2, b3⟩ := back hc' s' w'
    exact ⟨b1, d.ct E' _ F' as' _ σ' g (b2.weak hnm) b3 e'⟩
/-! ### the keys of a locked dict -/
def keyD : Key → PyData
  | .inl i => .int i
  | .inr s => .str s
theorem keyD_dp {κ : Key} : Dp K F (kV κ) (keyD κ) := by
  cases κ with
  | inl i => exact .int i
  | inr s => exact .str s
theorem keyA_D {κ : Key} : keyA (.d (keyD κ)) = some κ := by cases κ <;> rfl
theorem ei_keysM {ki : List AV → (List Cell → Prop) → List Cell → Prop} {m : Nat} (j : Nat) (hj : j < m) (h : Ev K C E cs td fun x cs1 => x = .cel j ∧ ∃ od ks rows, cs1[j]? = some (.m (some od) ks rows) ∧ ki (ks.map fun z => .d (keyD z.1)) (fun cs2 => ∃ rows', cs2[j]? = some (.m (some od) ks rows')) cs1) : Evi K C m E cs (iKeys td) ki := fun F as H σ R w e q => by
  refine h F as H σ _ w e fun x cs1 v F1 as1 H1 ⟨hx, od, ks, rows, hc, h1⟩ s1 w1 r1 => ?_
  subst hx
  cases r1 with | @cel _ p qs hp =>
  obtain ⟨g1, g2, g3⟩ := w1.drw hp hc
  have lq := g3.len
  have g1' : H1 p = some (.frz od (.dK (rowsK qs ks))) := g1
  have again : ∀ {F2 : Hp} {as2 : Own} {cs2 : List Cell} {H2 : Hp} {rows' : List (List PyData)}, cs2[j]? = some (.m (some od) ks rows') → Stp m F1 as1 H1 F2 as2 H2 → Wd K C F2 as2 cs2 H2 → H2 p = some (.frz od (.dK (rowsK qs ks))) := fun {F2 as2 cs2 H2 rows'} hc' s' w' => by
    obtain ⟨r, hr⟩ := s'.a j hj _ hp
    obtain ⟨f1, f2, f3⟩ := w'.drw (p := p) (qs := qs ++ r) hr hc'
    have er : rowsK (qs ++ r) ks = rowsK qs ks := List.map_congr_left fun x hx => by
      have : x.2 < qs.length := by rw [lq]; exact g2 x hx
      rw [List.getD_eq_getElem?_getD, List.getD_eq_getElem?_getD, List.getElem?_append_left this]
    rw [er] at f1
    exact f1
  refine ⟨p, od, rfl, .inl ⟨_, g1', q _ _ cs1 F1 as1 H1 _ h1 s1 w1 ⟨fun t y F2 as2 cs2 H2 ht ⟨rs, hok⟩ s2 w2 => ?_, fun F2 as2 cs2 H2 ⟨rs, hok⟩ s2 w2 => ?_⟩⟩⟩
  · have hH := again hok s2 w2
    rw [List.getElem?_map] at ht
    obtain ⟨z, hz, rfl⟩ := Option.map_eq_some_iff.mp ht
    have hz2 : (rowsK qs ks)[t]? = some (z.1, V.ref (qs.getD z.2 0)) := by rw [rowsK, List.getElem?_map, hz]; rfl
    refine ⟨⟨hH, (List.getElem?_eq_some_iff.mp hz2).1⟩, fun x H' ⟨e1, κ, v, e2, e3⟩ => ⟨F2, by rw [e1]; exact Stp.refl, by rw [e1]; exact w2, ?_⟩⟩
    rw [hz2] at e2; cases e2
    rw [e3]; exact .d keyD_dp
  · exact ⟨again hok s2 w2, by rw [rowsK, List.length_map, List.length_map]; exact Nat.le_refl _⟩
theorem ei_keysK {ki : List AV → (List Cell → Prop) → List Cell → Prop} {m : Nat} (j : Nat) (hj : j < m) (h : Ev K C E cs td fun x cs1 => x = .cel j ∧ ∃ od kv0 xs, cs1[j]? = some (.k (some (od, kv0)) xs) ∧ ki (xs.map fun z => .d (keyD z.1)) (fun cs2 => cs2[j]? = some (.k (some (od, kv0)) xs)) cs1) : Evi K C m E cs (iKeys td) ki := fun F as H σ R w e q => by
  refine h F as H σ _ w e fun x cs1 v F1 as1 H1 ⟨hx, od, kv0, xs, hc, h1⟩ s1 w1 r1 => ?_
  subst hx
  cases r1 with | @cel _ p qs hp =>
  obtain ⟨rfl, kvs, e0, g1, g2, g3⟩ := w1.dkt hp hc
  have e0 : kvs = kv0 := e0
  subst e0
  have g1' : H1 p = some (.frz od (.dK kvs)) := g1
  have again : ∀ {F2 : Hp} {as2 : Own} {cs2 : List Cell} {H2 : Hp}, cs2[j]? = some (.k (some (od, kvs)) xs) → Stp m F1 as1 H1 F2 as2 H2 → Wd K C F2 as2 cs2 H2 → H2 p = some (.frz od (.dK kvs)) := fun {F2 as2 cs2 H2} hc' s' w' => by
    obtain ⟨r, hr⟩ := s'.a j hj _ hp
    obtain ⟨hr0, kvs', e0, f1, f2, f3⟩ := w'.dkt (p := p) (qs := r) hr hc'
    have e0 : kvs' = kvs := e0
    rw [e0] at f1
    exact f1
  have hlen : kvs.length = xs.length := by rw [← List.length_map (f := Prod.fst), g2, List.length_map]
  refine ⟨p, od, rfl, .inl ⟨_, g1', q _ _ cs1 F1 as1 H1 _ h1 s1 w1 ⟨fun t y F2 as2 cs2 H2 ht hok s2 w2 => ?_, fun F2 as2 cs2 H2 hok s2 w2 => ?_⟩⟩⟩
  · have hH := again hok s2 w2
    rw [List.getElem?_map] at ht
    obtain ⟨z, hz, rfl⟩ := Option.map_eq_some_iff.mp ht
    have h1 : (kvs.map Prod.fst)[t]? = some z.1 := by rw [g2, List.getElem?_map, hz]; rfl
    refine ⟨⟨hH, by rw [hlen]; exact (List.getElem?_eq_some_iff.mp hz).1⟩, fun x H' ⟨e1, κ, v, e2, e3⟩ => ⟨F2, by rw [e1]; exact Stp.refl, by rw [e1]; exact w2, ?_⟩⟩
    rw [List.getElem?_map, e2] at h1
    cases h1
    rw [e3]; exact .d keyD_dp
  · exact ⟨again hok s2 w2, by rw [List.length_map, hlen]; exact Nat.le_refl _⟩
end
end Y

/-! # d.get(k, x) with k None; list(d) -/
namespace L2
open PySem PySem.Spec PyProof.Rows PySem.W PySem.Calls
section
variable {X : Cx} {pins : List (Addr × Obj)} {σ : St} {H : Hp} {s : Shared} {a : Addr} {kvs : List (Key × V)} {A : Around} {E : Value → Shared → Prop} {d : V} {r : Value}
theorem d_get2None {Q : Value → Shared → Prop} (I : Inv X pins σ H s) (e : Rd H a (.dK kvs)) (rd : RelV d r) (h : ∀ w' s', Inv X pins σ H s' → RelV d w' → Q w' s') : wpAny (model X.prog X.w) A (call (.builtin "dict.get") [.ref a, .none, r]) Q E s := by
  obtain ⟨z, hd, vs, rel, dd⟩ := dk_rd I.hok e
  obtain ⟨f, hm, hf⟩ := none_map dd
  refine call_meetsIn PySem.F.slot_dict_get dd.typeIs PySem.F.entry_dict_get (PySem.F.args_dict_get_3 _ _ _) (meets_dict_get_default (noneKind X.prog X.w) a (show (noneKind X.prog X.w).is none .none = true from rfl) hd r) ⟨_, hm, h _ _ (I.tok _) ?_⟩
  rw [hf]
  exact rd
end
def tDGet2N (td ty tx : TE) : TE := fun σ H Q => td σ H fun x H1 => ∃ a, x = .ref a ∧ IsD H1 a ∧ ty σ H1 fun y H2 => tx σ H2 fun z H3 => (∃ o, DGet H3 a y o ∧ Q (o.getD z) H3) ∨ ∃ kvs, y = .non ∧ Rd H3 a (.dK kvs) ∧ Q z H3
section
variable {X : Cx} {o e f : Expr} {apos cpos : Pos} {td ty tx : TE}
theorem pe_dget2N (hu : X.A.units + 1 < cLine) (ho : PE X o td) (he : PE X e ty) (hf : PE X f tx) (m : M2 X o "get" apos e f cpos) : PE X (.Call (.Attribute o "get" apos) [e, f] [] cpos) (tDGet2N td ty tx) := by
  refine ⟨fun pins s σ H Q I h => ?_⟩
  refine wpAny_Call_method m.base m.few m.line PySem.F.plainAttrs_dict PySem.F.slot_dict_get PySem.F.type_dict_get (thn (ho.run pins s σ H _ I h) fun u s1 ⟨x, H1, I1, rx, a, ex, d, q1⟩ => ?_)
  subst ex
  obtain rfl : u = Value.ref a := rx
  obtain ⟨t1, t2, _⟩ := isD_at I1 d
  refine ⟨t1, t2, ?_⟩
  rw [m.trees]
  refine Calls.callWith_builtin rfl (Calls.evalArgs_plain (Calls.spliced_cons (thn (he.run pins s1 σ H1 _ I1 q1) fun iv s2 ⟨y, H2, I2, ry, q2⟩ =>
    Calls.spliced_cons (thn (hf.run pins s2 σ H2 _ I2 q2) fun fv s3 ⟨z, H3, I3, rz, q3⟩ => Calls.spliced_nil ?_))))
  rcases q3 with ⟨ov, g, q3⟩ | ⟨kvs, ey, g, q3⟩
  · exact d_get2 hu I3 g ry rz fun w' s4 I4 rw' => ⟨_, H3, I4, rw', q3⟩
  · subst ey
    obtain rfl : iv = Value.none := ry
    exact d_get2None I3 g rz fun w' s4 I4 rw' => ⟨_, H3, I4, rw', q3⟩
end
end L2
namespace Y
open PySem L2
def rListDK : List V → Hp → VK → Prop := fun xs H Q => ∃ (a : Addr) (kvs : List (Key × V)), xs = [.ref a] ∧ Rd H a (.dK kvs) ∧ ∀ p, H p = none → Q (.ref p) (upd H p (.lst (kvs.map fun kv => kV kv.1)))
theorem call_listDK {X : Cx} (hc : X.calm = true) : CallR X (.type "list") rListDK := call_listD hc
section
variable {K : PySem.W.Frag} {C : Addr} {F F' H H' : Hp} {as as' : Own} {cs cs' cs1 : List Cell} {E : AEnv} {k : AV → List Cell → Prop} {td ty tx : TE} {x y : AV}
/-- d.get(key, other), the values named; the key may be None -/
theorem ev_dget2K (h : Ev K C E cs td fun x cs1 => (∃ ls, keysOf x cs1 = some ls) ∧ Ev K C E cs1 ty fun y cs2 => Ev K C E cs2 tx fun z cs3 => ∃ i lk xs, x = .cel i ∧ cs3[i]? = some (.k lk xs) ∧ ((∃ κ, keyA y = some κ ∧ k ((lookG xs κ).getD z) cs3) ∨ y = .d .none ∧ k z cs3)) : Ev K C E cs (tDGet2N td ty tx) k := fun F as H σ Q w e q => by
  refine h F as H σ _ w e fun x cs1 v F1 as1 H1 ⟨⟨ls, hls⟩, h1⟩ s1 w1 r1 => ?_
  obtain ⟨p0, kv0, rfl, hr0, _⟩ := keysOf_at hls w1 r1
  refine ⟨p0, rfl, .inl ⟨kv0, hr0⟩, ?_⟩
  refine h1 F1 as1 H1 σ _ w1 (e.mono s1.f s1.pre) fun y cs2 u F2 as2 H2 h2 s2 w2 r2 => ?_
  have s12 := s1.tr s2
  refine h2 F2 as2 H2 σ _ w2 (e.mono s12.f s12.pre) fun z cs3 t F3 as3 H3 ⟨i, lk, xs, hx, hc, hk⟩ s3 w3 r3 => ?_
  subst hx
  have s23 := s2.tr s3
  have r1' := r1.mono s23.f s23.pre
  have r2' := r2.mono s3.f s3.pre
  cases r1' with | @cel _ p qs hp =>
  obtain ⟨_, kvs, _, g1, g2, g3⟩ := w3.dkt hp hc
  rcases hk with ⟨κ, hy, hk⟩ | ⟨hy, hk⟩
  · obtain rfl := keyA_at hy r2'
    obtain ⟨l1, l2⟩ := look_avs (κ := κ) g2 g3
    refine .inl ⟨valV kvs κ, .inl ⟨kvs, κ, rd_lk g1, rfl, rfl⟩, ?_⟩
    cases e1 : lookG xs κ with
    | none =>
      rw [e1] at hk
      rw [l1 e1]
      exact q _ cs3 _ F3 as3 H3 hk (s12.tr s3) w3 r3
    | some a =>
      rw [e1] at hk
      obtain ⟨v', v1, v2⟩ := l2 a e1
      rw [v1]
      exact q _ cs3 _ F3 as3 H3 hk (s12.tr s3) w3 v2
  · subst hy
    cases r2' with | d r2' =>
    exact .inr ⟨kvs, r2'.non_inv, rd_lk g1, q _ cs3 _ F3 as3 H3 hk (s12.tr s3) w3 r3⟩
/-- list(d) -/
theorem on_listM {i : Nat} {ks : List (Key × Nat)} {rows : List (List PyData)} (h1 : cs[i]? = some (.m none ks rows)) (h : k (.cel cs.length) (cs ++ [.l (ks.map fun z => keyD z.1)])) : On K C rListDK [.cel i] cs k := fun F as H vs Q w r q => by
  cases r with | cons r1 r2 =>
  cases r2
  cases r1 with | @cel _ p qs hp =>
  obtain ⟨g1, g2, g3⟩ := w.drw hp h1
  have g1' : H p = some (.dK (rowsK qs ks)) := g1
  refine ⟨p, _, rfl, .inl g1', fun l hl => ?_⟩
  have hd : ∀ ks : List (Key × Nat), DpAll K F ((rowsK qs ks).map fun kv => kV kv.1) (ks.map fun z => keyD z.1) := fun ks => by
    induction ks with
    | nil => exact .nil
    | cons a ks ih => exact .cons keyD_dp ih
  exact Kt.cell q w hl trivial (.l upd_same (hd ks)) h
/-- a dict literal of constants -/
theorem pairs_c : ∀ (ps : List (Str × Int)) (σ : St) (H : Hp) (Q : List (V × V) → Hp → Prop), Q (ps.map fun z => (V.str z.1, V.int z.2)) H → tPairs (ps.map fun z => (tC (.str z.1), tC (.int z.2))) σ H Q
  | [], _, _, _, h => h
  | a :: ps, σ, H, Q, h => pairs_c ps σ H _ h
theorem ev_disp {trs : List (TE × TE)} (ps : List (Str × Int)) (ht : trs = ps.map fun z => (tC (.str z.1), tC (.int z.2))) (hl : ps.length ≤ 15) (hm : mergeK [] (ps.map fun z => (Sum.inr z.1, V.int z.2)) = ps.map fun z => ((Sum.inr z.1 : Key), V.int z.2)) (h : k (.cel cs.length) (cs ++ [.k none (ps.map fun z => (Sum.inr z.1, .d (.int z.2)))])) : Ev K C E cs (tDisp trs) k := fun F as H σ Q w e q p hp => by
  subst ht
  refine pairs_c ps σ _ _ ⟨upd_same, ps.map fun z => (Sum.inr z.1, V.int z.2), by rw [List.map_map]; rfl, by rw [List.length_map]; exact hl, ?_⟩
  rw [hm]
  have e2 : upd (upd H p (.dK [])) p (.dK (ps.map fun z => ((Sum.inr z.1 : Key), V.int z.2))) = upd H p (.dK (ps.map fun z => ((Sum.inr z.1 : Key), V.int z.2))) := by
    funext b
    by_cases c : b = p
    · subst c; rw [upd_same, upd_same]
    · rw [upd_ne c, upd_ne c, upd_ne c]
  rw [e2]
  have ha : ∀ ps : List (Str × Int), ARs K C F (as ++ [[p]]) ((ps.map fun z => ((Sum.inr z.1 : Key), AV.d (.int z.2))).map Prod.snd) ((ps.map fun z => ((Sum.inr z.1 : Key), V.int z.2)).map Prod.snd) := fun ps => by
    induction ps with
    | nil => exact .nil
    | cons a ps ih => exact .cons (.d (.int _)) ih
  exact Kt.cell (fun a b c _ _ _ g t => q a b c _ _ _ g t) w hp trivial (.k (lk := none) trivial upd_same (by simp) (ha ps)) h
end
end Y

/-! # Pure states: errors -/
namespace Y
open PySem L2
def XP.ren (ρ : Nat → Nat) : XP → XP
  | .fld f x => .fld f (x.ren ρ)
  | .no => .no
abbrev KX := Addr → XP → List Cell → Prop
abbrev EX := Addr → XP → AEnv → List Cell → Prop
abbrev ASpX := List AV → List Cell → (AV → List Cell → Prop) → KX → Prop
section
variable {K : PySem.W.Frag} {C : Addr} {F F' H H' : Hp} {as as' : Own} {cs cs' cs1 : List Cell} {E : AEnv} {k : AV → List Cell → Prop} {x y : AV} {te ta tb : TE} {tas tar : TA} {n : Nat} {D : AEnds} {W : WX} {ex : EX}
def spAX (K : PySem.W.Frag) (C : Addr) (A : ASpX) : Sp := fun vs H Q E => ∃ F as cs xs k kx, Wd K C F as cs H ∧ ARs K C F as xs vs ∧ A xs cs k kx ∧
  (∀ r cs' v F' as' H', k r cs' → Stp as.length F as H F' as' H' → Wd K C F' as' cs' H' → AR K C F' as' r v → Q v H') ∧
  ∀ c p cs' d F' as' H', kx c p cs' → Stp as.length F as H F' as' H' → Wd K C F' as' cs' H' → XR K C F' as' p d → E (.ref c) d H'
theorem spAX_len {A : ASpX} {l : Nat} (h : ∀ xs cs k kx, A xs cs k kx → xs.length = l) {vs : List V} {H : Hp} {Q : VK} {X : XK} (g : spAX K C A vs H Q X) : vs.length = l := by
  obtain ⟨F, as, cs, xs, k, kx, _, r, hA, _⟩ := g
  rw [← r.length]; exact h _ _ _ _ hA
/-! ### expressions that may raise -/
def EvX (K : PySem.W.Frag) (C : Addr) (W : WX) (ex : EX) (E : AEnv) (cs : List Cell) (te : TE) (k : AV → List Cell → Prop) : Prop :=
  ∀ (F : Hp) (as : Own) (H : Hp) (σ : St) (Q : VK), Wd K C F as cs H → EnvR K C F as E σ →
    (∀ x cs' v F' as' H', k x cs' → Stp as.length F as H F' as' H' → Wd K C F' as' cs' H' → AR K C F' as' x v → Q v H') →
    (∀ c p cs' F' as' H' d, ex c p E cs' → Stp as.length F as H F' as' H' → Wd K C F' as' cs' H' → XR K C F' as' p d → W (.ref c) d σ H') → te σ H Q
def EvsX (K : PySem.W.Frag) (C : Addr) (W : WX) (ex : EX) (E : AEnv) (cs : List Cell) (ta : TA) (k : List AV → List Cell → Prop) : Prop :=
  ∀ (F : Hp) (as : Own) (H : Hp) (σ : St) (Q : List V → Hp → Prop), Wd K C F as cs H → EnvR K C F as E σ →
    (∀ x cs' v F' as' H', k x cs' → Stp as.length F as H F' as' H' → Wd K C F' as' cs' H' → ARs K C F' as' x v → Q v H') →
    (∀ c p cs' F' as' H' d, ex c p E cs' → Stp as.length F as H F' as' H' → Wd K C F' as' cs' H' → XR K C F' as' p d → W (.ref c) d σ H') → ta σ H Q
theorem evx_of (h : Ev K C E cs te k) : EvX K C W ex E cs te k := fun F as H σ Q w e z _ => h F as H σ Q w e z
theorem evsx_of {ks : List AV → List Cell → Prop} (h : Evs K C E cs tas ks) : EvsX K C W ex E cs tas ks := fun F as H σ Q w e z _ => h F as H σ Q w e z
theorem evsx_cons {ks : List AV → List Cell → Prop} (h : EvX K C W ex E cs ta fun x cs1 => EvsX K C W ex E cs1 tar fun xs cs2 => ks (x :: xs) cs2) : EvsX K C W ex E cs (tCons ta tar) ks := fun F as H σ Q w e z zx => by
  refine h F as H σ _ w e (fun x cs1 v F1 as1 H1 h1 s1 w1 r1 => ?_) zx
  refine h1 F1 as1 H1 σ _ w1 (e.mono s1.f s1.pre) (fun y cs2 u F2 as2 H2 h2 s2 w2 r2 => ?_) fun c p cs' F' as' H' d h s => zx c p cs' F' as' H' d h (s1.tr s)
  exact z _ cs2 _ F2 as2 H2 h2 (s1.tr s2) w2 (.cons (r1.mono s2.f s2.pre) r2)
theorem evx_tup (h : EvsX K C W ex E cs tas fun xs cs1 => xs.length ≤ 100000 ∧ k (.tup xs) cs1) : EvX K C W ex E cs (tTup tas) k := fun F as H σ Q w e z zx => by
  refine h F as H σ _ w e (fun xs cs1 vs F1 as1 H1 ⟨hl, h1⟩ s1 w1 r1 => ?_) zx
  refine ⟨line_of (by rw [← r1.length]; exact hl), fun p hp => ?_⟩
  have hF : F1 p = none := w1.fro.free hp
  exact Kt.frz (Kt.later z s1) w1 hp h1 (.tup (SqT.of upd_same) (r1.mono (Same.new hF) Pre.refl))
theorem evx_tupD (h : EvsX K C W ex E cs tas fun xs cs1 => IsDs xs fun ds => k (.d (.tuple ds)) cs1) : EvX K C W ex E cs (tTup tas) k := fun F as H σ Q w e z zx => by
  refine h F as H σ _ w e (fun xs cs1 vs F1 as1 H1 ⟨ds, h0, hl, h1⟩ s1 w1 r1 => ?_) zx
  have r2 := ARs.toData ((unD_eq h0) ▸ r1)
  refine ⟨line_of (by rw [← r1.length, unD_eq h0, List.length_map]; exact hl), fun p hp => ?_⟩
  have hF : F1 p = none := w1.fro.free hp
  exact Kt.frz (Kt.later z s1) w1 hp h1 (.d (.tupOf upd_same ((Same.new hF).dpAll r2)))
theorem evx_op {r : R2} (h : EvX K C W ex E cs ta fun x cs1 => EvX K C W ex E cs1 tb fun y cs2 => O2 K C r x y cs2 k) : EvX K C W ex E cs (tOp r ta tb) k := fun F as H σ Q w e z zx => by
  refine h F as H σ _ w e (fun x cs1 v F1 as1 H1 h1 s1 w1 r1 => ?_) zx
  refine h1 F1 as1 H1 σ _ w1 (e.mono s1.f s1.pre) (fun y cs2 u F2 as2 H2 h2 s2 w2 r2 => ?_) fun c p cs' F' as' H' d h s => zx c p cs' F' as' H' d h (s1.tr s)
  exact h2 F2 as2 H2 v u Q w2 (r1.mono s2.f s2.pre) r2 fun a b c _ _ _ g t => z a b c _ _ _ g ((s1.tr s2).tr t)
theorem ex_toX {g : TG} (h : EvX K C D.W D.ex E cs te fun x cs1 => Eg K C n E x cs1 g D.nx) : Ex K C n E cs (tAsg te g) D := fun F as H σ Dc hn w e d => by
  have hn' : n ≤ as.length := by rw [w.len]; exact hn
  refine h F as H σ _ w e (fun x cs1 v F1 as1 H1 h1 s1 w1 r1 => ?_) fun c p cs' F' as' H' dd h s w' r => d.ex c p E cs' F' as' H' σ dd h (s.weak hn') w' (e.mono s.f s.pre) r
  have s1' := s1.weak hn'
  exact h1 F1 as1 H1 σ v _ (by rw [← w1.len]; exact s1'.len hn') w1 (e.mono s1.f s1.pre) r1 fun E' cs' F' as' H' σ' g t w' e' => d.nx E' cs' F' as' H' σ' g (s1'.trans t) w' e'
theorem ex_dropX (h : EvX K C D.W D.ex E cs te fun _ cs1 => D.nx E cs1) : Ex K C n E cs (tDrop te) D := fun F as H σ Dc hn w e d => by
  have hn' : n ≤ as.length := by rw [w.len]; exact hn
  exact h F as H σ _ w e (fun x cs1 v F1 as1 H1 h1 s1 w1 r1 => d.nx E cs1 F1 as1 H1 σ h1 (s1.weak hn') w1 (e.mono s1.f s1.pre)) fun c p cs' F' as' H' dd h s w' r => d.ex c p E cs' F' as' H' σ dd h (s.weak hn') w' (e.mono s.f s.pre) r
theorem ex_retX (h : EvX K C D.W D.ex E cs te D.rt) : Ex K C n E cs (tRet te) D := fun F as H σ Dc hn w e d => by
  have hn' : n ≤ as.length := by rw [w.len]; exact hn
  exact h F as H σ _ w e (fun x cs1 v F1 as1 H1 h1 s1 w1 r1 => d.rt x cs1 F1 as1 H1 v h1 (s1.weak hn') w1 r1) fun c p cs' F' as' H' dd h s w' r => d.ex c p E cs' F' as' H' σ dd h (s.weak hn') w' (e.mono s.f s.pre) r
/-! ### calls -/
theorem XR.ren {asN : Own} {ρ : Nat → Nat} {p : XP} {d : Option Addr} (a : ∀ (y : AV) (v : V), AR K C F as y v → AR K C F asN (y.ren ρ) v) (h : XR K C F as p d) : XR K C F asN (p.ren ρ) d := by
  cases p with
  | no => exact h
  | fld f x =>
    obtain ⟨q, v, h1, h2, h3⟩ := h
    exact ⟨q, v, h1, h2, a _ _ h3⟩
theorem call_coreX {A : ASpX} {is : List Nat} {zs xs : List AV} {cz : List Cell} {vs : List V} {Q : VK} {X : XK} {kx : KX} (ok : CallOk is zs cz xs cs) (w : Wd K C F as cs H) (r : ARs K C F as xs vs)
    (hA : A zs cz (fun y cz' => k (y.ren (rho is cs.length)) (putC cs is (cz'.map (Cell.ren (rho is cs.length))))) fun c p cz' => kx c (p.ren (rho is cs.length)) (putC cs is (cz'.map (Cell.ren (rho is cs.length)))))
    (q : Kt K C F as H k Q) (qx : ∀ c p cs' F' as' H' d, kx c p cs' → Stp as.length F as H F' as' H' → Wd K C F' as' cs' H' → XR K C F' as' p d → X (.ref c) d H') : spAX K C A vs H Q X := by
  obtain ⟨sel, hwd, hr, back⟩ := call_back ok w r
  refine ⟨F, sel, cz, zs, _, _, hwd, hr, hA, fun y cz' v F' as' H' hk s w' r' => ?_, fun c p cz' d F' as' H' hk s w' r' => ?_⟩
  · obtain ⟨asN, s1, w1, a1⟩ := back F' as' H' cz' s w'
    exact q _ _ v F' asN H' hk s1 w1 (a1 y v r')
  · obtain ⟨asN, s1, w1, a1⟩ := back F' as' H' cz' s w'
    exact qx _ _ _ F' asN H' d hk s1 w1 (r'.ren a1)
def Calls (A : ASpX) (xs : List AV) (cs : List Cell) (k : AV → List Cell → Prop) (kx : KX) : Prop := ∃ is zs cz, CallOk is zs cz xs cs ∧
  A zs cz (fun y cz' => k (y.ren (rho is cs.length)) (putC cs is (cz'.map (Cell.ren (rho is cs.length))))) fun c p cz' => kx c (p.ren (rho is cs.length)) (putC cs is (cz'.map (Cell.ren (rho is cs.length))))
/-- with data alone -/
theorem calls_data {A : ASpX} {xs : List AV} {kx : KX} {ds : List PyData} (h : unD xs = some ds) (hA : A (ds.map AV.d) [] (fun y cz' => k (y.ren (rho [] cs.length)) (putC cs [] (cz'.map (Cell.ren (rho [] cs.length))))) fun c p cz' => kx c (p.ren (rho [] cs.length)) (putC cs [] (cz'.map (Cell.ren (rho [] cs.length))))) : Calls A xs cs k kx :=
  ⟨[], ds.map AV.d, [], ⟨List.nodup_nil, fun i hi => absurd hi (List.not_mem_nil), by
    rw [unD_eq h, renAll_map, List.map_map]; rfl, by
    clear hA h
    induction ds with
    | nil => rfl
    | cons d ds ih => simpa [AV.ltAll, AV.lt] using ih, rfl, rfl⟩, hA⟩
/-- f(..) in a try: the wish stands at the slots -/
theorem evx_callS {A : ASpX} (h : Evs K C E cs tas fun xs cs1 => Calls A xs cs1 k fun c p cs' => ex c p E cs') : EvX K C W ex E cs (tCallS (spAX K C A) (WE W) tas) k := fun F as H σ Q w e z zx => by
  refine h F as H σ _ w e fun xs cs1 vs F1 as1 H1 ⟨is, zs, cz, ok, hA⟩ s1 w1 r1 => ?_
  exact call_coreX ok w1 r1 hA (Kt.later z s1) fun c p cs' F' as' H' d h s => zx c p cs' F' as' H' d h (s1.tr s)
/-- f(..), what it raises goes on out of the def -/
theorem evx_callP {A : ASpX} {X : XK} (h : Evs K C E cs tas fun xs cs1 => Calls A xs cs1 k fun c p cs' => ex c p E cs') : EvX K C (fun cls d _ H => X cls d H) ex E cs (tCall (spAX K C A) [] X tas) k := fun F as H σ Q w e z zx => by
  refine h F as H σ _ w e fun xs cs1 vs F1 as1 H1 ⟨is, zs, cz, ok, hA⟩ s1 w1 r1 => ?_
  show spAX K C A (vs ++ []) H1 Q X
  rw [List.append_nil]
  exact call_coreX ok w1 r1 hA (Kt.later z s1) fun c p cs' F' as' H' d h s => zx c p cs' F' as' H' d h (s1.tr s)
/-- f(..), which does not raise here -/
theorem ev_callNX {A : ASpX} {X : XK} (h : Evs K C E cs tas fun xs cs1 => Calls A xs cs1 k fun _ _ _ => False) : Ev K C E cs (tCall (spAX K C A) [] X tas) k := fun F as H σ Q w e z => by
  refine h F as H σ _ w e fun xs cs1 vs F1 as1 H1 ⟨is, zs, cz, ok, hA⟩ s1 w1 r1 => ?_
  show spAX K C A (vs ++ []) H1 Q X
  rw [List.append_nil]
  exact call_coreX ok w1 r1 (kx := fun _ _ _ => False) hA (Kt.later z s1) fun c p cs' F' as' H' d h s => h.elim
/-- f(k = v) in a try -/
theorem evx_callN0S {A : ASpX} {m : Nat} {gV : List V → List V → List V} (hg : ∀ vs, gV [] vs = vs) (h : Evs K C E cs tas fun xs cs1 => xs.length = m ∧ Calls A xs cs1 k fun c p cs' => ex c p E cs') : EvX K C W ex E cs (tCallN0S m (spAX K C A) gV (WE W) tas) k := fun F as H σ Q w e z zx => by
  refine h F as H σ _ w e fun xs cs1 vs F1 as1 H1 ⟨hm, is, zs, cz, ok, hA⟩ s1 w1 r1 => ⟨by rw [← r1.length]; exact hm, ?_⟩
  rw [hg]
  exact call_coreX ok w1 r1 hA (Kt.later z s1) fun c p cs' F' as' H' d h s => zx c p cs' F' as' H' d h (s1.tr s)
/-- s.m(..), s a script -/
theorem evx_methX {A : ASpX} {m : Str} (hm : m ≠ "kept_steps") (h : Ev K C E cs te fun x cs1 => IsScr x fun ds => Evs K C E cs1 tas fun xs cs2 => Calls A (.scr ds :: xs) cs2 k fun c p cs' => ex c p E cs') : EvX K C W ex E cs (tMethX C m (spAX K C A) (WE W) te tas) k := fun F as H σ Q w e z zx => by
  refine h F as H σ _ w e fun x cs1 v F1 as1 H1 ⟨ds, hx, h1⟩ s1 w1 r1 => ?_
  subst hx
  have r1' := r1
  cases r1 with | scr hs =>
  obtain ⟨dx, u, h2, h3⟩ := hs
  refine ⟨_, dx, _, rfl, w1.fro _ _ h2, by rw [lookup_putF, if_neg hm]; rfl, ?_⟩
  refine h1 F1 as1 H1 σ _ w1 (e.mono s1.f s1.pre) fun xs cs2 vs F2 as2 H2 ⟨is, zs, cz, ok, hA⟩ s2 w2 r2 => ?_
  exact call_coreX ok w2 (.cons (r1'.mono s2.f s2.pre) r2) hA (Kt.later z (s1.tr s2)) fun c p cs' F' as' H' d h s => zx c p cs' F' as' H' d h ((s1.tr s2).tr s)
theorem evx_methNS {A : ASpX} {m : Str} {l : Nat} {gV : List V → List V → List V} (hg : ∀ a vs, gV [a] vs = a :: vs) (hm : m ≠ "kept_steps") (h : Ev K C E cs te fun x cs1 => IsScr x fun ds => Evs K C E cs1 tas fun xs cs2 => xs.length = l ∧ Calls A (.scr ds :: xs) cs2 k fun c p cs' => ex c p E cs') : EvX K C W ex E cs (tMethNS C m l (spAX K C A) gV (WE W) te tas) k := fun F as H σ Q w e z zx => by
  refine h F as H σ _ w e fun x cs1 v F1 as1 H1 ⟨ds, hx, h1⟩ s1 w1 r1 => ?_
  subst hx
  have r1' := r1
  cases r1 with | scr hs =>
  obtain ⟨dx, u, h2, h3⟩ := hs
  refine ⟨_, dx, _, rfl, w1.fro _ _ h2, by rw [lookup_putF, if_neg hm]; rfl, ?_⟩
  refine h1 F1 as1 H1 σ _ w1 (e.mono s1.f s1.pre) fun xs cs2 vs F2 as2 H2 ⟨hl, is, zs, cz, ok, hA⟩ s2 w2 r2 => ⟨by rw [← r2.length]; exact hl, ?_⟩
  rw [hg]
  exact call_coreX ok w2 (.cons (r1'.mono s2.f s2.pre) r2) hA (Kt.later z (s1.tr s2)) fun c p cs' F' as' H' d h s => zx c p cs' F' as' H' d h ((s1.tr s2).tr s)
theorem evx_ixOS {A : ASpX} (h : Ev K C E cs ta fun x cs1 => IsScr x fun ds => Ev K C E cs1 tb fun y cs2 => Calls A [.scr ds, y] cs2 k fun c p cs' => ex c p E cs') : EvX K C W ex E cs (tIxOS C (spAX K C A) (WE W) ta tb) k := fun F as H σ Q w e z zx => by
  refine h F as H σ _ w e fun x cs1 v F1 as1 H1 ⟨ds, hx, h1⟩ s1 w1 r1 => ?_
  subst hx
  refine h1 F1 as1 H1 σ _ w1 (e.mono s1.f s1.pre) fun y cs2 u F2 as2 H2 ⟨is, zs, cz, ok, hA⟩ s2 w2 r2 => ?_
  have r1' := r1.mono s2.f s2.pre
  have r1'' := r1'
  cases r1' with | scr hs =>
  obtain ⟨dx, u, h2, h3⟩ := hs
  exact ⟨_, dx, _, rfl, w2.fro _ _ h2, call_coreX ok w2 (.cons r1'' (.cons r2 .nil)) hA (Kt.later z (s1.tr s2)) fun c p cs' F' as' H' d h s => zx c p cs' F' as' H' d h ((s1.tr s2).tr s)⟩
theorem evx_addOS {A : ASpX} (h : Ev K C E cs ta fun x cs1 => IsScr x fun ds => Ev K C E cs1 tb fun y cs2 => IsScr y fun es => Calls A [.scr ds, .scr es] cs2 (fun r cs' => (∃ rs, r = .scr rs) ∧ k r cs') fun c p cs' => ex c p E cs') : EvX K C W ex E cs (tAddOS C (spAX K C A) (WE W) ta tb) k := fun F as H σ Q w e z zx => by
  refine h F as H σ _ w e fun x cs1 v F1 as1 H1 ⟨ds, hx, h1⟩ s1 w1 r1 => ?_
  subst hx
  refine h1 F1 as1 H1 σ _ w1 (e.mono s1.f s1.pre) fun y cs2 u F2 as2 H2 ⟨es, hy, is, zs, cz, ok, hA⟩ s2 w2 r2 => ?_
  subst hy
  have r1' := r1.mono s2.f s2.pre
  have r1'' := r1'
  have r2' := r2
  cases r1' with | scr hs =>
  cases r2 with | scr hs2 =>
  obtain ⟨dx, u, h2, h3⟩ := hs
  obtain ⟨dx2, u2, h22, h32⟩ := hs2
  refine ⟨_, dx, _, _, dx2, _, rfl, rfl, w2.fro _ _ h2, w2.fro _ _ h22, ?_⟩
  refine call_coreX (k := fun r cs' => (∃ rs, r = .scr rs) ∧ k r cs') ok w2 (.cons r1'' (.cons r2' .nil)) hA (fun r cs' v F' as' H' ⟨⟨rs, hr⟩, hk⟩ s w' ar => ⟨?_, ?_⟩) fun c p cs' F' as' H' d h s => zx c p cs' F' as' H' d h ((s1.tr s2).tr s)
  · subst hr; cases ar; exact ⟨_, rfl⟩
  · exact z r cs' v F' as' H' hk ((s1.tr s2).tr s) w' ar
/-! ### raise -/
/-- the __init__ of an error with one field -/
def spOInit (c : Addr) (f : Str) : Sp := fun vs H Q _ => ∃ a v, vs = [.ref a, v] ∧ H a = some (exo a c none) ∧ ∀ dx, H dx = none → dx ≠ a → Q .non (upd (upd H dx (exd dx [(f, v)])) a (exo a c (some dx)))
def tRaiseO (c : Addr) (f : Str) (W : WX) (tas : TA) : TS := fun _ σ H => tMkO c (spOInit c f) [] tas σ H fun cls d H' => W cls d σ H'
theorem ps_raiseO {X : Cx} {CX : CXT} {x : Str} {c fI : Addr} {l : Nat} {fd : FuncData} {ps : List Str} {f : Str} {e : Expr} {es : List Expr} {ta : TA} {p pos pos2 : Pos} {W : WX} (hc : X.calm = true) (T : OexC X.K c) (iC : PySem.W.findIn X.K (.ref c) "__init__" = some (some (.ref fI))) (tI : PySem.W.typeIn X.K (.ref fI) = some (.type "function"))
    (F1 : FnOk X.prog X.w X.K X.mg X.base CX l fI fd ps (spOInit c f)) (hr : Room (l + 1) X.A) (hb : Binds X.K fd ps []) (hx : Passes CX X (fun _ _ _ => False)) (tk : Takes X W) (hg : Gl X x) (hm : X.mg x = some (.ref c)) (ha : PA X (e :: es) ta)
    (hdb : (x == ("__debug__" : Str)) = false := by decide) (he : starEach (e :: es) X.env = (false, eval e X.env) :: starEach es X.env := by rfl) (hpl : (backTo pos (starEach es X.env)).any (·.1) = false := by rfl) :
    PS X (.Raise (some (.Call (.Name x p) (e :: es) [] pos)) none pos2) (tRaiseO c f W ta) := ps_raise hc tk (pmk_oex T iC tI F1 hr hb .nil hx hg hm ha hdb he hpl)
theorem ex_raiseO {c : Addr} {f : Str} (h : Evs K C E cs tas fun xs cs1 => ∃ x, xs = [x] ∧ D.ex c (.fld f x) E cs1) : Ex K C n E cs (tRaiseO c f D.W tas) D := fun F as H σ Dc hn w e d => by
  have hn' : n ≤ as.length := by rw [w.len]; exact hn
  refine h F as H σ _ w e fun xs cs1 vs F1 as1 H1 ⟨x, hx, h1⟩ s1 w1 r1 => ?_
  subst hx
  cases r1 with | cons r1 r2 =>
  cases r2
  rename_i v
  refine ⟨by simp, fun a na => ⟨a, v, rfl, upd_same, fun dx nd hne => ?_⟩⟩
  have nd' : H1 dx = none := by rw [upd_ne hne] at nd; exact nd
  refine ⟨rfl, dx, [(f, v)], upd_same, by rw [upd_ne hne]; exact upd_same, nd', ?_⟩
  have eH : upd (del (upd (upd (upd H1 a (exo a c none)) dx (exd dx [(f, v)])) a (exo a c (some dx))) a) dx (.xd [(f, v)]) = upd H1 dx (.xd [(f, v)]) := by
    funext b
    by_cases hb : b = dx
    · subst hb; rw [upd_same, upd_same]
    · rw [upd_ne hb, upd_ne hb]
      by_cases hb2 : b = a
      · subst hb2; rw [del_same, na]
      · rw [del_ne hb2, upd_ne hb2, upd_ne hb, upd_ne hb2]
  rw [eH]
  obtain ⟨w2, s2, sF⟩ := w1.newF nd' (.xd [(f, v)])
  have s12 := s1.tr s2
  exact d.ex c (.fld f x) E cs1 _ as1 _ σ (some dx) h1 (s12.weak hn') w2 (e.mono s12.f s12.pre) ⟨dx, v, rfl, upd_same, r1.mono sF Pre.refl⟩
/-- raise X('..'), X without a field -/
theorem ex_raiseN {c : Addr} (h : D.ex c .no E cs) : Ex K C n E cs (fun _ σ H => D.W (.ref c) none σ H) D := fun F as H σ Dc hn w e d => d.ex c .no E cs F as H σ none h Stp.refl w e rfl
/-! ### try -/
def Hand (P : AV → Option Addr → Prop) : XP → Addr → Prop
  | .fld f x, a => ∀ dd, P (.exn a dd f x) (some dd)
  | .no, a => P (.raw a) none
def dAs (i : Nat) (D : AEnds) : AEnds := { D with nx := fun E2 cs2 => D.nx (E2.set i none) cs2, bk := fun E2 cs2 => D.bk (E2.set i none) cs2, ct := fun E2 cs2 => D.ct (E2.set i none) cs2 }
theorem hand_env {P : AV → Option Addr → Prop} {p : XP} {a : Addr} {d : Option Addr} (h : Hand P p a) (r : XR K C F as p d) : ∃ y, P y d ∧ AR K C F as y (.ref a) := by
  cases p with
  | no =>
    have r : d = none := r
    subst r
    exact ⟨_, h, .raw⟩
  | fld f x =>
    obtain ⟨q, v, rfl, h2, h3⟩ := r
    exact ⟨_, h q, .exn h2 h3⟩
theorem endsAs_ok {i : Nat} {Dc : Ends} (d : EndsR K C n F as H D Dc) : EndsR K C n F as H (dAs i D) (endsAs i Dc) :=
  ⟨fun E cs F' as' H' σ h s w e => d.nx _ cs F' as' H' _ h s w e.setN, d.rt, fun E cs F' as' H' σ h s w e => d.bk _ cs F' as' H' _ h s w e.setN, fun E cs F' as' H' σ h s w e => d.ct _ cs F' as' H' _ h s w e.setN, d.ex⟩
theorem ex_tryAs {c : Value} {i : Nat} {ts : Addr → Value → Option Addr → TS} {Wout : WX} {tb : WX → TS}
    (h : ∀ W, Ex K C n E cs (tb W) { D with W := W, ex := fun cl p E' cs' => PySem.W.exmOne K (.ref cl) c = some true ∧ ∀ a, Hand (fun y d => Ex K C n (E'.set i (some y)) cs' (ts a (.ref cl) d) (dAs i D)) p a }) :
    Ex K C n E cs (fun Dc σ H => tb (wAs K c i ts Wout Dc) Dc σ H) D := fun F as H σ Dc hn w e d => by
  have hn' : n ≤ as.length := by rw [w.len]; exact hn
  refine h _ F as H σ Dc hn w e ⟨d.nx, d.rt, d.bk, d.ct, fun cl p E' cs' F' as' H' σ' dd ⟨h1, h2⟩ s w' e' r => ⟨true, h1, fun _ a ha => ?_, fun z => by cases z⟩⟩
  obtain ⟨y, hy, ry⟩ := hand_env (h2 a) r
  exact hy F' as' H' _ _ (by rw [← w'.len]; exact s.len hn') w' (e'.set ry) (endsAs_ok (d.later s))
/-- what the clauses ask, one behind the other -/
def HandL (K : PySem.W.Frag) (C : Addr) (n i : Nat) (D : AEnds) (cl : Addr) (p : XP) (E' : AEnv) (cs' : List Cell) : List (Value × (Addr → Value → Option Addr → TS)) → Prop
  | [] => False
  | (c, ts) :: r => ∃ b, PySem.W.exmOne K (.ref cl) c = some b ∧ (b = true → ∀ a, Hand (fun y d => Ex K C n (E'.set i (some y)) cs' (ts a (.ref cl) d) (dAs i D)) p a) ∧ (b = false → HandL K C n i D cl p E' cs' r)
theorem ex_tryL {i : Nat} {l : List (Value × (Addr → Value → Option Addr → TS))} {Wout : WX} {tb : WX → TS}
    (h : ∀ W, Ex K C n E cs (tb W) { D with W := W, ex := fun cl p E' cs' => HandL K C n i D cl p E' cs' l }) :
    Ex K C n E cs (fun Dc σ H => tb (wManyAs K i Wout Dc l) Dc σ H) D := fun F as H σ Dc hn w e d => by
  have hn' : n ≤ as.length := by rw [w.len]; exact hn
  refine h _ F as H σ Dc hn w e ⟨d.nx, d.rt, d.bk, d.ct, fun cl p E' cs' F' as' H' σ' dd h2 s w' e' r => ?_⟩
  have go : ∀ l, HandL K C n i D cl p E' cs' l → wManyAs K i Wout Dc l (.ref cl) dd σ' H' := by
    intro l
    induction l with
    | nil => exact fun h => h.elim
    | cons x l ih =>
      obtain ⟨c, ts⟩ := x
      rintro ⟨b, h1, h3, h4⟩
      refine ⟨b, h1, fun hb a ha => ?_, fun hb => ih (h4 hb)⟩
      obtain ⟨y, hy, ry⟩ := hand_env (h3 hb a) r
      exact hy F' as' H' _ _ (by rw [← w'.len]; exact s.len hn') w' (e'.set ry) (endsAs_ok (d.later s))
  exact go l h2
/-! ### in the suite -/
theorem ev_xf {a cl dd : Addr} {f : Str} (h : Ev K C E cs te fun x cs1 => ∃ y, x = .exn a dd f y ∧ k y cs1) : Ev K C E cs (tXf a (.ref cl) (some dd) cl f te) k := fun F as H σ Q w e z => by
  refine h F as H σ _ w e fun x cs1 v F1 as1 H1 ⟨y, hx, h1⟩ s1 w1 r1 => ?_
  subst hx
  cases r1 with | exn r1 r2 =>
  exact ⟨rfl, rfl, dd, _, _, rfl, w1.fro _ _ r1, by simp [List.lookup], z y cs1 _ F1 as1 H1 h1 s1 w1 r2⟩
theorem ev_raw {a : Addr} (q : k (.raw a) cs) : Ev K C E cs (tC (.ref a)) k := fun F as H σ Q w e z => z _ cs _ F as H q Stp.refl w .raw
theorem on_isX {a cl dd cx : Addr} {f : Str} {b : Bool} (hC : ExcC K cl) (hk : PySem.W.kitOne K (.ref cl) (.ref cx) = some b) (h : k (.d (.bool b)) cs) : On K C (rIsX K a (.ref cl) (some dd)) [.exn a dd f y, .raw cx] cs k := fun F as H vs Q w r q => by
  cases r with | cons r1 r2 =>
  cases r2 with | cons r2 r3 =>
  cases r3
  cases r1 with | exn r1 r4 =>
  cases r2
  exact ⟨cl, .ref cx, .ref cx, b, rfl, hC, rfl, fun u hu => by cases hu; rfl, hk, fun d' e => by cases e; exact ⟨_, w.fro _ _ r1⟩, q.now h w (.d (.bl b))⟩
theorem on_isXT {a cl dd : Addr} {f : Str} {s : String} {b : Bool} (hC : ExcC K cl) (hk : PySem.W.kitOne K (.ref cl) (.type s) = some b) (h : k (.d (.bool b)) cs) : On K C (rIsX K a (.ref cl) (some dd)) [.exn a dd f y, .ty s] cs k := fun F as H vs Q w r q => by
  cases r with | cons r1 r2 =>
  cases r2 with | cons r2 r3 =>
  cases r3
  cases r1 with | exn r1 r4 =>
  cases r2
  exact ⟨cl, .ty s, .type s, b, rfl, hC, rfl, fun u hu => by cases hu; rfl, hk, fun d' e => by cases e; exact ⟨_, w.fro _ _ r1⟩, q.now h w (.d (.bl b))⟩
/-- a frozen empty dict -/
theorem ev_dct (q : k .dct cs) : Ev K C E cs tDNewK k := fun F as H σ Q w e z => fun p hp => Kt.frz z w hp q (.dct upd_same)
/-! ### a body -/
theorem body_goX {N : List Str} {xs : List AV} {vs : List V} {t : TS} {Q : VK} {X : XK} {kx : KX} {n : Nat} (E : AEnv) (hE : startE N xs = E) (hn : cs.length = n) (w : Wd K C F as cs H) (r : ARs K C F as xs vs)
    (hx : Ex K C n E cs t { nx := fun _ cs' => Rt n k (.d .none) cs', rt := Rt n k, W := fun cls d _ H => X cls d H, ex := fun c p _ cs' => kx c p cs' })
    (q : ∀ r cs' v F' as' H', k r cs' → Stp as.length F as H F' as' H' → Wd K C F' as' cs' H' → AR K C F' as' r v → Q v H')
    (qx : ∀ c p cs' d F' as' H', kx c p cs' → Stp as.length F as H F' as' H' → Wd K C F' as' cs' H' → XR K C F' as' p d → X (.ref c) d H') : t { nx := fun _ H' => Q .non H', rt := Q } (L2.start N vs) H := by
  subst hn; subst hE
  have key : ∀ r cs' v F' as' H', Rt cs.length k r cs' → Stp as.length F as H F' as' H' → Wd K C F' as' cs' H' → AR K C F' as' r v → Q v H' := fun r cs' v F' as' H' h s w' r' => h.run w s w' r' fun r1 cs1 as1 hk s1 w1 a1 => q r1 cs1 v F' as1 H' hk s1 w1 a1
  refine hx F as H _ _ (Nat.le_refl _) w (EnvR.start r) ⟨fun E' cs' F' as' H' σ h s w' _ => key _ cs' _ F' as' H' h (s.weak (by rw [w.len]; exact Nat.le_refl _)) w' (.d .non), fun x cs' F' as' H' v h s w' r' => key x cs' v F' as' H' h (s.weak (by rw [w.len]; exact Nat.le_refl _)) w' r', fun _ _ _ _ _ _ h => h.elim, fun _ _ _ _ _ _ h => h.elim, fun c p E' cs' F' as' H' σ d h s w' _ xr => qx c p cs' d F' as' H' h (s.weak (by rw [w.len]; exact Nat.le_refl _)) w' xr⟩
end
end Y

namespace Y
open PySem L2
def top (i : Nat) : Stmt := PySem.Challenge.pw_yearturned_k12_deeds_texts.main.body.getD i (.Pass ⟨0, 0, 0, 0⟩)
abbrev s_NoDeed_init : Stmt := inClass (top 2) 0
abbrev s_is_whole : Stmt := top 9
abbrev s_is_label : Stmt := top 10
abbrev s_is_amount : Stmt := top 11
abbrev s_is_number : Stmt := top 12
abbrev s_is_deed : Stmt := top 13
abbrev s_entry_text : Stmt := top 16
abbrev s_deeds_text : Stmt := top 17
abbrev s_well : Stmt := top 19
abbrev s_draw : Stmt := top 20
abbrev s_label : Stmt := top 21
abbrev s_amount : Stmt := top 22
abbrev s_number : Stmt := top 23
abbrev s_deed : Stmt := top 24
abbrev s_deeds : Stmt := top 25
abbrev s_l_entry_text : Stmt := top 26
abbrev s_l_deeds_text : Stmt := top 27
abbrev s_like : Stmt := top 28
abbrev s_whole : Stmt := top 29
abbrev s_no_deed : Stmt := top 30
abbrev s_tried : Stmt := top 31
abbrev s_classes : Stmt := top 32
abbrev s_refused : Stmt := top 33
abbrev s_law : Stmt := top 34
theorem sc_is_whole : FnScope ["thing"] ["thing"] (defScope s_is_whole) := ⟨rfl, rfl, rfl, by decide +kernel, rfl, by decide +kernel, by decide +kernel⟩
theorem sc_is_label : FnScope ["thing"] ["thing"] (defScope s_is_label) := ⟨rfl, rfl, rfl, by decide +kernel, rfl, by decide +kernel, by decide +kernel⟩
theorem sc_is_amount : FnScope ["thing"] ["thing"] (defScope s_is_amount) := ⟨rfl, rfl, rfl, by decide +kernel, rfl, by decide +kernel, by decide +kernel⟩
theorem sc_is_number : FnScope ["thing"] ["thing"] (defScope s_is_number) := ⟨rfl, rfl, rfl, by decide +kernel, rfl, by decide +kernel, by decide +kernel⟩
theorem sc_is_deed : FnScope ["thing", "word", "rest"] ["thing"] (defScope s_is_deed) := ⟨rfl, rfl, rfl, by decide +kernel, rfl, by decide +kernel, by decide +kernel⟩
theorem sc_entry_text : FnScope ["entry"] ["entry"] (defScope s_entry_text) := ⟨rfl, rfl, rfl, by decide +kernel, rfl, by decide +kernel, by decide +kernel⟩
theorem sc_deeds_text : FnScope ["deeds", "index", "deed", "entry"] ["deeds"] (defScope s_deeds_text) := ⟨rfl, rfl, rfl, by decide +kernel, rfl, by decide +kernel, by decide +kernel⟩
theorem sc_NoDeed_init : FnScope ["self", "index"] ["self", "index"] (defScope s_NoDeed_init) := ⟨rfl, rfl, rfl, by decide +kernel, rfl, by decide +kernel, by decide +kernel⟩
theorem sc_well : FnScope ["script", "k", "cell", "deep"] ["script", "k"] (defScope s_well) := ⟨rfl, rfl, rfl, by decide +kernel, rfl, by decide +kernel, by decide +kernel⟩
theorem sc_draw : FnScope ["well", "many", "found", "turn", "mixed"] ["well", "many"] (defScope s_draw) := ⟨rfl, rfl, rfl, by decide +kernel, rfl, by decide +kernel, by decide +kernel⟩
theorem sc_whole : FnScope ["actual", "expected"] ["actual", "expected"] (defScope s_whole) := ⟨rfl, rfl, rfl, by decide +kernel, rfl, by decide +kernel, by decide +kernel⟩
theorem sc_label : FnScope ["well", "way"] ["well"] (defScope s_label) := ⟨rfl, rfl, rfl, by decide +kernel, rfl, by decide +kernel, by decide +kernel⟩
theorem sc_amount : FnScope ["well", "way"] ["well"] (defScope s_amount) := ⟨rfl, rfl, rfl, by decide +kernel, rfl, by decide +kernel, by decide +kernel⟩
theorem sc_number : FnScope ["well"] ["well"] (defScope s_number) := ⟨rfl, rfl, rfl, by decide +kernel, rfl, by decide +kernel, by decide +kernel⟩
theorem sc_deed : FnScope ["well", "way", "number", "label", "amount", "other", "found"] ["well"] (defScope s_deed) := ⟨rfl, rfl, rfl, by decide +kernel, rfl, by decide +kernel, by decide +kernel⟩
theorem sc_deeds : FnScope ["well", "most", "way", "size", "turn"] ["well", "most"] (defScope s_deeds) := ⟨rfl, rfl, rfl, by decide +kernel, rfl, by decide +kernel, by decide +kernel⟩
theorem sc_l_entry_text : FnScope ["entry"] ["entry"] (defScope s_l_entry_text) := ⟨rfl, rfl, rfl, by decide +kernel, rfl, by decide +kernel, by decide +kernel⟩
theorem sc_l_deeds_text : FnScope ["acts", "deed", "entry"] ["acts"] (defScope s_l_deeds_text) := ⟨rfl, rfl, rfl, by decide +kernel, rfl, by decide +kernel, by decide +kernel⟩
theorem sc_like : FnScope ["actual", "expected", "k"] ["actual", "expected"] (defScope s_like) := ⟨rfl, rfl, rfl, by decide +kernel, rfl, by decide +kernel, by decide +kernel⟩
theorem sc_no_deed : FnScope ["way", "found"] ["way"] (defScope s_no_deed) := ⟨rfl, rfl, rfl, by decide +kernel, rfl, by decide +kernel, by decide +kernel⟩
theorem sc_tried : FnScope ["acts", "found", "result", "e"] ["acts"] (defScope s_tried) := ⟨rfl, rfl, rfl, by decide +kernel, rfl, by decide +kernel, by decide +kernel⟩
theorem sc_classes : FnScope ["acts", "found", "e"] ["acts"] (defScope s_classes) := ⟨rfl, rfl, rfl, by decide +kernel, rfl, by decide +kernel, by decide +kernel⟩
theorem sc_refused : FnScope ["acts", "index", "kept", "found"] ["acts", "index"] (defScope s_refused) := ⟨rfl, rfl, rfl, by decide +kernel, rfl, by decide +kernel, by decide +kernel⟩
theorem sc_law : FnScope ["script", "k", "well", "way", "more", "acts", "short", "spot", "worse", "turn", "passed", "found", "result"] ["script"] (defScope s_law) := ⟨rfl, rfl, rfl, by decide +kernel, rfl, by decide +kernel, by decide +kernel⟩
/-- a def of the module, a def of a class, as the top has left them -/
structure Df (K : PySem.W.Frag) (mg : Str → Option Value) (x : Str) (st : Stmt) (ps : List Str) where
  a : Addr
  fd : FuncData
  F : Fun K x x st a fd
  g : mg x = some (.ref a)
  b : Binds K fd ps []
structure Mt (K : PySem.W.Frag) (C : Addr) (m q : Str) (st : Stmt) (ps : List Str) where
  a : Addr
  fd : FuncData
  F : Fun K m q st a fd
  m : Meth K C m a
  b : Binds K fd ps []
theorem Mt.spc {K : PySem.W.Frag} {C : Addr} {m q : Str} {st : Stmt} {ps : List Str} (M : Mt K C m q st ps) : Spc K C m M.a := ⟨M.m.at_, M.m.fn⟩

structure Tx (K : PySem.W.Frag) (mg : Str → Option Value) where
  c_TurnError : Addr
  g_TurnError : mg "TurnError" = some (.ref c_TurnError)
  c_NoDeed : Addr
  g_NoDeed : mg "NoDeed" = some (.ref c_NoDeed)
  c_NoLine : Addr
  g_NoLine : mg "NoLine" = some (.ref c_NoLine)
  c_NoText : Addr
  g_NoText : mg "NoText" = some (.ref c_NoText)
  is_whole : Df K mg "is_whole" s_is_whole ["thing"]
  is_label : Df K mg "is_label" s_is_label ["thing"]
  is_amount : Df K mg "is_amount" s_is_amount ["thing"]
  is_number : Df K mg "is_number" s_is_number ["thing"]
  is_deed : Df K mg "is_deed" s_is_deed ["thing"]
  entry_text : Df K mg "entry_text" s_entry_text ["entry"]
  deeds_text : Df K mg "deeds_text" s_deeds_text ["deeds"]
  NoDeed_init : Mt K c_NoDeed "__init__" "NoDeed.__init__" s_NoDeed_init ["self", "index"]
  well : Df K mg "_law_well" s_well ["script", "k"]
  draw : Df K mg "_law_draw" s_draw ["well", "many"]
  whole : Df K mg "_law_whole" s_whole ["actual", "expected"]
  label : Df K mg "_law_label" s_label ["well"]
  amount : Df K mg "_law_amount" s_amount ["well"]
  number : Df K mg "_law_number" s_number ["well"]
  deed : Df K mg "_law_deed" s_deed ["well"]
  deeds : Df K mg "_law_deeds" s_deeds ["well", "most"]
  l_entry_text : Df K mg "_law_entry_text" s_l_entry_text ["entry"]
  l_deeds_text : Df K mg "_law_deeds_text" s_l_deeds_text ["acts"]
  like : Df K mg "_law_like" s_like ["actual", "expected"]
  no_deed : Df K mg "_law_no_deed" s_no_deed ["way"]
  tried : Df K mg "_law_tried" s_tried ["acts"]
  classes : Df K mg "_law_classes" s_classes ["acts"]
  refused : Df K mg "_law_refused" s_refused ["acts", "index"]
  law : Df K mg "law" s_law ["script"]
  xf_TurnError : XfC K c_TurnError
  xc_TurnError : ExcC K c_TurnError
  kv_TurnError : PySem.W.kitOne K (.ref c_TurnError) (.type "ValueError") = some true
  xf_NoDeed : XfC K c_NoDeed
  xc_NoDeed : ExcC K c_NoDeed
  kv_NoDeed : PySem.W.kitOne K (.ref c_NoDeed) (.type "ValueError") = some true
  ox_NoDeed : OexC K c_NoDeed
  nf_NoDeed : PySem.W.findIn K (.ref c_NoDeed) "index" = some none
  tt_NoDeed : PySem.W.typeIn K (.ref NoDeed_init.a) = some (.type "function")
  xf_NoLine : XfC K c_NoLine
  xc_NoLine : ExcC K c_NoLine
  kv_NoLine : PySem.W.kitOne K (.ref c_NoLine) (.type "ValueError") = some true
  xf_NoText : XfC K c_NoText
  xc_NoText : ExcC K c_NoText
  kv_NoText : PySem.W.kitOne K (.ref c_NoText) (.type "ValueError") = some true
  em_TurnError_TurnError : PySem.W.exmOne K (.ref c_TurnError) (.ref c_TurnError) = some true
  ki_TurnError_TurnError : PySem.W.kitOne K (.ref c_TurnError) (.ref c_TurnError) = some true
  em_NoDeed_TurnError : PySem.W.exmOne K (.ref c_NoDeed) (.ref c_TurnError) = some true
  ki_NoDeed_TurnError : PySem.W.kitOne K (.ref c_NoDeed) (.ref c_TurnError) = some true
  em_NoDeed_NoDeed : PySem.W.exmOne K (.ref c_NoDeed) (.ref c_NoDeed) = some true
  ki_NoDeed_NoDeed : PySem.W.kitOne K (.ref c_NoDeed) (.ref c_NoDeed) = some true
  em_NoDeed_NoLine : PySem.W.exmOne K (.ref c_NoDeed) (.ref c_NoLine) = some false
  ki_NoDeed_NoLine : PySem.W.kitOne K (.ref c_NoDeed) (.ref c_NoLine) = some false
  em_NoDeed_NoText : PySem.W.exmOne K (.ref c_NoDeed) (.ref c_NoText) = some false
  ki_NoDeed_NoText : PySem.W.kitOne K (.ref c_NoDeed) (.ref c_NoText) = some false
  em_NoLine_NoLine : PySem.W.exmOne K (.ref c_NoLine) (.ref c_NoLine) = some true
  ki_NoLine_NoLine : PySem.W.kitOne K (.ref c_NoLine) (.ref c_NoLine) = some true
  em_NoText_NoText : PySem.W.exmOne K (.ref c_NoText) (.ref c_NoText) = some true
  ki_NoText_NoText : PySem.W.kitOne K (.ref c_NoText) (.ref c_NoText) = some true
  t_MOST_LABEL : Tok
  g_MOST_LABEL : mg "MOST_LABEL" = some (.int 999999999999999999999999999999 t_MOST_LABEL)
  t_MOST_AMOUNT : Tok
  g_MOST_AMOUNT : mg "MOST_AMOUNT" = some (.int 1000000000000 t_MOST_AMOUNT)
  t_MOST_NUMBER : Tok
  g_MOST_NUMBER : mg "MOST_NUMBER" = some (.int 1000000000 t_MOST_NUMBER)
  t_NONE : Tok
  g_NONE : mg "NONE" = some (.str "none" t_NONE)
  b_len : mg "len" = none
  b_isinstance : mg "isinstance" = none
  b_int : mg "int" = none
  b_bool : mg "bool" = none
  b_str : mg "str" = none
  b_tuple : mg "tuple" = none
  b_list : mg "list" = none
  b_all : mg "all" = none
  b_max : mg "max" = none
  b_range : mg "range" = none
  b_enumerate : mg "enumerate" = none
  b_ValueError : mg "ValueError" = none
  kb_deeds_text_0 : KBn K deeds_text.fd ["deeds"] 0 ["deeds"] (fun us ws => us ++ ws) (fun vs zs => vs ++ zs)
end Y
/-! # draws of groups 0 and 1, over pure states -/
namespace Y
open PySem L2
local macro_rules | `(tactic| walk_at "a") => `(tactic| repeat (first
  | (with_reducible apply ev_int) | (with_reducible apply ev_str) | (with_reducible apply ev_bl) | (with_reducible apply ev_non) | (with_reducible apply ev_ty)
  | ((with_reducible apply ev_var); · rfl)
  | (with_reducible apply ev_op) | (with_reducible apply ev_un) | (with_reducible apply evs_nil) | (with_reducible apply evs_cons) | (with_reducible apply ev_cb) | (with_reducible apply ev_if)
  | (with_reducible apply et_test) | (with_reducible apply et_B) | (with_reducible apply et_and) | (with_reducible apply et_or) | (with_reducible apply et_not)
  | (with_reducible apply ex_seq) | (with_reducible apply ex_name) | (with_reducible apply ex_to) | (with_reducible apply ex_ret) | (with_reducible apply ex_if) | (with_reducible apply ex_drop) | (with_reducible apply ex_retN) | (with_reducible apply ex_next)
  | (with_reducible apply ex_par) | (with_reducible apply ex_par3) | (with_reducible apply eg_sub) | (with_reducible apply eg_name)
  | (with_reducible apply o_int) | (with_reducible apply o_bl) | (with_reducible apply o1_neg)
  | (with_reducible apply ev_andV) | (with_reducible apply ev_orV) | (with_reducible apply ev_notV)
  | (with_reducible apply ev_sl) | (with_reducible apply eo_part) | (with_reducible apply eo_no) | (with_reducible apply ev_bm) | (with_reducible apply ev_bm0)
  | (with_reducible apply ite_f) | (with_reducible apply ite_t) | (with_reducible apply ev_tupD) | (with_reducible apply ev_chain)
  | ((with_reducible apply o_ixL); (· rfl); (· rfl)) | ((with_reducible apply o_ixT); (· rfl); (· rfl))
  | ((with_reducible apply o_eq); (· rfl); (· rfl); (· rfl)) | ((with_reducible apply o_ne); (· rfl); (· rfl); (· rfl))
  | (with_reducible apply o_isN) | (with_reducible apply o_notN)
  | (with_reducible apply on_int) | (with_reducible apply on_intB) | (with_reducible apply on_max) | (with_reducible apply on_min) | (with_reducible apply on_abs)
  | ((with_reducible apply on_lenL); (· rfl)) | ((with_reducible apply on_lenT); (· rfl)) | ((with_reducible apply on_isD); (· rfl); (· decide))
  | ((with_reducible apply isSub); (· rfl); (· rfl)) | (with_reducible apply isB) | (with_reducible apply isI) | (with_reducible apply is2) | (with_reducible apply is3) | (with_reducible apply isI1) | (with_reducible apply isI2) | (with_reducible apply isT) | (with_reducible apply isL) | (with_reducible apply isScr) | ((with_reducible apply isDs); (· rfl); (· rfl))
  | ((with_reducible apply o_inT); (· rfl); (· rfl); (· decide +kernel); (· decide +kernel)) | ((with_reducible apply o_eqD); (· rfl); (· rfl); (· decide +kernel); (· decide +kernel))
  | ((with_reducible apply iteT'); · first | decide +kernel | rfl) | ((with_reducible apply iteF'); · first | decide +kernel | rfl)))
theorem iteB {A B : Prop} {c : Bool} (h1 : c = true → A) (h2 : c = false → B) : if c = true then A else B := by
  cases c with
  | true => exact h1 rfl
  | false => rw [if_neg (by decide)]; exact h2 rfl
abbrev T7 : List String := ["NoneType", "bool", "int", "str", "list", "tuple", "dict"]
def STEPSD : List PyData := [.tuple [.str "make", .str "all"], .tuple [.str "make", .str "standing"], .tuple [.str "start", .str "new"], .tuple [.str "start", .str "all"], .tuple [.str "start", .str "free"], .tuple [.str "label", .str "new"], .tuple [.str "label", .str "all"], .tuple [.str "label", .str "free"], .tuple [.str "tie", .str "new"], .tuple [.str "tie", .str "all"], .tuple [.str "tie", .str "free"], .tuple [.str "drop"]]
def isStepD : PyData → Bool
  | .tuple ds => ds.all (fun d => isTy (tyD d) "str") && STEPSD.any fun z => PyData.eqv z (.tuple ds)
  | _ => false
theorem iteF' {A B : Prop} {c : Bool} (h : c = false) (hb : B) : if c = true then A else B := by
  rw [h]; exact iteF hb
theorem iteT' {A B : Prop} {c : Bool} (h : c = true) (hb : A) : if c = true then A else B := by
  rw [h]; exact iteT hb
/-- a well with at most B turns -/
def PotD (ws : List PyData) (B : Int) : Prop := ∃ w0 w1 w2 : Int, ws = [.int w0, .int w1, .int w2] ∧ 0 ≤ w1 ∧ w1 < 2 ^ 200 ∧ 0 ≤ w2 ∧ w2 ≤ B
theorem PotD.mono {ws : List PyData} {B B' : Int} (h : PotD ws B) (hb : B ≤ B') : PotD ws B' := by
  obtain ⟨w0, w1, w2, h1, h2, h3, h4, h5⟩ := h
  exact ⟨w0, w1, w2, h1, h2, h3, h4, Int.le_trans h5 hb⟩
def ApWell : ASp := fun xs cs k => ∃ (ns : List Int) (i : Int), xs = [.d (.list (ns.map PyData.int)), .d (.int i)] ∧ cs = [] ∧ ns.length ≤ 63 ∧ 0 ≤ i ∧ i ≤ 1000 ∧ ∀ ws, PotD ws 0 → k (.cel 0) [.l ws]
def ApDraw : ASp := fun xs cs k => ∃ (ws : List PyData) (many B : Int), xs = [.cel 0, .d (.int many)] ∧ cs = [.l ws] ∧ PotD ws B ∧ B < 2 ^ 60 ∧ 0 < many ∧ many < 2 ^ 200 ∧ ∀ (r : Int) ws', 0 ≤ r → r < many → PotD ws' (B + 1) → k (.d (.int r)) [.l ws']
/-- a call with one list cell and data -/
theorem ev_call1 {K : PySem.W.Frag} {C : Addr} {E : AEnv} {cs : List Cell} {tas : TA} {k : AV → List Cell → Prop} {X : XK} {A : ASp} (h : Evs K C E cs tas fun xs cs1 => ∃ (i : Nat) (ws ds : List PyData), xs = .cel i :: ds.map AV.d ∧ cs1[i]? = some (.l ws) ∧
      A (.cel 0 :: ds.map AV.d) [.l ws] fun y cz' => k (y.ren (rho [i] cs1.length)) (putC cs1 [i] (cz'.map (Cell.ren (rho [i] cs1.length))))) : Ev K C E cs (tCall (spA K C A) [] X tas) k := ev_call fun F as H σ Q w e z => h F as H σ Q w e fun xs cs1 v F' as' H' ⟨i, ws, ds, hx, hc, hA⟩ => z xs cs1 v F' as' H' ⟨[i], .cel 0 :: ds.map AV.d, [.l ws],
    ⟨by simp, fun j hj => by rw [List.mem_singleton.mp hj]; exact (List.getElem?_eq_some_iff.mp hc).1, by
      rw [hx]
      show AV.cel i :: AV.renAll _ _ = _
      rw [renAll_map, List.map_map]; rfl, by
      show (AV.lt 1 (.cel 0) && AV.ltAll 1 (ds.map AV.d)) = true
      clear hx hA
      have : ∀ ds : List PyData, AV.ltAll 1 (ds.map AV.d) = true := fun ds => by
        induction ds with
        | nil => rfl
        | cons d ds ih => simpa [AV.ltAll, AV.lt] using ih
      rw [this]; rfl, by simp [hc, Cell.ren], rfl⟩, hA⟩
theorem ev_well {K : PySem.W.Frag} {C : Addr} {E : AEnv} {cs : List Cell} {tas : TA} {k : AV → List Cell → Prop} {X : XK} (h : Evs K C E cs tas fun xs cs1 => ∃ (ns : List Int) (i : Int), xs = [.d (.list (ns.map PyData.int)), .d (.int i)] ∧ ns.length ≤ 63 ∧ 0 ≤ i ∧ i ≤ 1000 ∧ ∀ ws, PotD ws 0 → k (.cel cs1.length) (cs1 ++ [.l ws])) : Ev K C E cs (tCall (spA K C ApWell) [] X tas) k := ev_callD fun F as H σ Q w e z => h F as H σ Q w e fun xs cs1 v F' as' H' ⟨ns, i, hx, h1, h2, h3, hk⟩ => z xs cs1 v F' as' H' ⟨[.list (ns.map .int), .int i], by rw [hx]; rfl, ns, i, rfl, rfl, h1, h2, h3, hk⟩
theorem ev_draw {K : PySem.W.Frag} {C : Addr} {E : AEnv} {cs : List Cell} {tas : TA} {k : AV → List Cell → Prop} {X : XK} (h : Evs K C E cs tas fun xs cs1 => ∃ (i : Nat) (many : Int) (ws : List PyData) (B : Int), xs = [.cel i, .d (.int many)] ∧ cs1[i]? = some (.l ws) ∧ PotD ws B ∧ B < 2 ^ 60 ∧ 0 < many ∧ many < 2 ^ 200 ∧
      ∀ (r : Int) ws', 0 ≤ r → r < many → PotD ws' (B + 1) → k (.d (.int r)) (cs1.set i (.l ws'))) : Ev K C E cs (tCall (spA K C ApDraw) [] X tas) k := ev_call1 fun F as H σ Q w e z => h F as H σ Q w e fun xs cs1 v F' as' H' ⟨i, many, ws, B, hx, hc, hp, hB, h0, h1, hk⟩ => z xs cs1 v F' as' H' ⟨i, ws, [.int many], hx, hc, ws, many, B, rfl, rfl, hp, hB, h0, h1, fun r ws' r0 r1 hp' => by
      have := hk r ws' r0 r1 hp'
      show k (.d (.int r)) (putC cs1 [i] [.l ws'])
      simp only [putC, List.append_nil]
      exact this⟩
theorem two_at {a b : PyData} {r : Int} (r0 : 0 ≤ r) (r1 : r < 2) : ∃ d, atI [a, b] r = some d ∧ (d = a ∨ d = b) := by
  obtain rfl | rfl : r = 0 ∨ r = 1 := by omega
  · exact ⟨a, rfl, .inl rfl⟩
  · exact ⟨b, rfl, .inr rfl⟩
section
variable {P : Program} {w : World} {K : PySem.W.Frag} {mg : Str → Option Value} {base : Heap}
theorem ok_draw (T : Tx K mg) (C : Addr) : FnOk P w K mg base CX0 1 T.draw.a T.draw.fd ["well", "many"] (spA K C ApDraw) := by
  refine T.draw.F.ok sc_draw (fun vs H Q E h => spA_len (l := 2) (fun xs cs k ⟨_, _, _, h, _⟩ => by rw [h]; rfl) h) (fun cdv A outer s H vs Q E hr h => ?_)
  obtain ⟨F, as, cs, xs, k, wd, ar, ⟨ws, many, B, rfl, rfl, ⟨w0, w1, w2, rfl, h10, h11, h20, h21⟩, hB, hm0, hm1, hk⟩, q⟩ := h
  refine ⟨_, (pss_cons (ps_if (pt_cmpR op_gt (pe_ix (ix_listK K) (pv 0) pe_int (fun _ _ => rfl)) pe_int (nomark _))
  (pss_cons (ps_set (i := 2) sc_draw.nd rfl (Or.inl rfl) (pe_op op_mod (pe_callTy call_int1 (by rfl) T.b_int (by decide +kernel) (pa_cons (pe_ix (ix_listK K) (pv 0) pe_int (fun _ _ => rfl)) pa_nil)) (pv 1)))
  (pss_cons (ps_asg (pe_op op_fdivW (pe_ix (ix_listK K) (pv 0) pe_int (fun _ _ => rfl)) (pv 1)) (pg_sub (pv 0) pe_int set_list))
  (pss_one (ps_ret (pv 2)))))
  pss_nil)
  (pss_cons (ps_set (i := 3) sc_draw.nd rfl (Or.inl rfl) (pe_op op_add (pe_ix (ix_listK K) (pv 0) pe_int (fun _ _ => rfl)) pe_int))
  (pss_cons (ps_asg (pv 3) (pg_sub (pv 0) pe_int set_list))
  (pss_cons (ps_set (i := 4) sc_draw.nd rfl (Or.inl rfl) (pe_op op_mod (pe_callTy call_int1 (by rfl) T.b_int (by decide +kernel) (pa_cons (pe_op op_add (pe_op op_powW (pe_op op_add (pe_ix (ix_listK K) (pv 0) pe_int (fun _ _ => rfl)) (pe_op op_mul pe_int (pv 3))) pe_int) (pe_op op_mul pe_int (pv 3))) pa_nil)) (pe_op op_add (pe_op op_powW pe_int pe_int) pe_int)))
  (pss_cons (ps_set (i := 4) sc_draw.nd rfl (Or.inl rfl) (pe_op op_mod (pe_callTy call_int1 (by rfl) T.b_int (by decide +kernel) (pa_cons (pe_op op_powW (pe_op op_add (pv 4) (pe_op op_mul pe_int (pv 3))) pe_int) pa_nil)) (pe_op op_add (pe_op op_powW pe_int pe_int) pe_int)))
  (pss_one (ps_ret (pe_op op_mod (pe_callTy call_int1 (by rfl) T.b_int (by decide +kernel) (pa_cons (pe_op op_fdivW (pv 4) (pe_op op_powW pe_int pe_int)) pa_nil)) (pv 1))))))))), ?_⟩
  refine body_go [some (.cel 0), some (.d (.int many)), none, none, none] (n := 1) rfl rfl wd ar ?_ q
  walk_at "a"
  refine iteB (fun c => ?_) (fun c => ?_)
  · have c := of_decide_eq_true c
    walk_at "a"
    refine o_intC hm0 ?_
    walk_at "a"
    refine o_intC (wide_div hm0 (b := 200) (by omega) (by decide) (by decide)) ?_
    walk_at "a"
    exact Rt.here (hk _ _ (Int.emod_nonneg _ (by omega)) (Int.emod_lt_of_pos _ hm0) ⟨_, _, _, rfl, h10, h11, h20, by omega⟩) (Nat.le_of_ble_eq_true rfl) rfl rfl
  · walk_at "a"
    have b1 : CPowW (w1 + 15485863 * (w2 + 1)) 3 := powW (a := 201) (by omega) (by decide) (by decide) (by decide)
    refine o_intC (.inl (by decide)) ?_
    walk_at "a"
    refine o_intC b1 ?_
    walk_at "a"
    refine o_intC (.inl (by decide)) ?_
    walk_at "a"
    refine o_intC ⟨by decide, by decide⟩ ?_
    walk_at "a"
    refine o_intC (by show (0 : Int) < 10 ^ 40 + 121; decide) ?_
    have m0 : 0 ≤ ((w1 + 15485863 * (w2 + 1)) ^ (3 : Int).toNat + 982451653 * (w2 + 1)) % (10 ^ (40 : Int).toNat + 121) := Int.emod_nonneg _ (by decide)
    have m1 : ((w1 + 15485863 * (w2 + 1)) ^ (3 : Int).toNat + 982451653 * (w2 + 1)) % (10 ^ (40 : Int).toNat + 121) < 10 ^ 41 := Int.lt_of_lt_of_le (Int.emod_lt_of_pos _ (by decide)) (by decide)
    generalize ((w1 + 15485863 * (w2 + 1)) ^ (3 : Int).toNat + 982451653 * (w2 + 1)) % (10 ^ (40 : Int).toNat + 121) = M at m0 m1
    walk_at "a"
    have b2 : CPowW (M + 32452843 * (w2 + 1)) 3 := powW (a := 201) (by omega) (by decide) (by decide) (by decide)
    refine o_intC (.inl (by decide)) ?_
    walk_at "a"
    refine o_intC b2 ?_
    walk_at "a"
    refine o_intC ⟨by decide, by decide⟩ ?_
    walk_at "a"
    refine o_intC (by show (0 : Int) < 10 ^ 38 + 133; decide) ?_
    generalize (M + 32452843 * (w2 + 1)) ^ (3 : Int).toNat % (10 ^ (38 : Int).toNat + 133) = N
    walk_at "a"
    refine o_intC ⟨by decide, by decide⟩ ?_
    walk_at "a"
    refine o_intC (wide_div (b := 200) (by decide) (by decide) (by decide) (by decide)) ?_
    walk_at "a"
    refine o_intC hm0 ?_
    exact Rt.here (hk _ _ (Int.emod_nonneg _ (by omega)) (Int.emod_lt_of_pos _ hm0) ⟨_, _, _, rfl, h10, h11, by omega, by omega⟩) (Nat.le_of_ble_eq_true rfl) rfl rfl
theorem ok_well (T : Tx K mg) (C : Addr) : FnOk P w K mg base CX0 1 T.well.a T.well.fd ["script", "k"] (spA K C ApWell) := by
  refine T.well.F.ok sc_well (fun vs H Q E h => spA_len (l := 2) (fun xs cs k ⟨_, _, h, _⟩ => by rw [h]; rfl) h) (fun cdv A outer s H vs Q E hr h => ?_)
  obtain ⟨F, as, cs, xs, k, wd, ar, ⟨ns, i, rfl, rfl, hl, hi0, hi1, hk⟩, q⟩ := h
  refine ⟨_, (pss_cons (ps_set (i := 2) sc_well.nd rfl (Or.inl rfl) pe_int)
  (C8.pss_cut (ps_if (pt_cmpR op_lt (pv 1) (pe_callB (call_lenK K) (by rfl) T.b_len (by decide +kernel) (pa_cons (pv 0) pa_nil)) (nomark _))
  (pss_one (ps_set (i := 2) sc_well.nd rfl (Or.inl rfl) (pe_callTy call_int1 (by rfl) T.b_int (by decide +kernel) (pa_cons (pe_ix (ix_listK K) (pv 0) (pv 1) (fun _ _ => rfl)) pa_nil))))
  pss_nil)
  (pss_cons (ps_set (i := 3) sc_well.nd rfl (Or.inl rfl) (pe_op op_mul pe_int (pv 2)))
  (C8.pss_cut (ps_if (pt_cmpR op_lt (pv 2) pe_int (nomark _))
  (pss_one (ps_set (i := 3) sc_well.nd rfl (Or.inl rfl) (pe_op op_sub (pe_op op_mul (pe_un un_neg pe_int) (pv 2)) pe_int)))
  pss_nil)
  (pss_one (ps_ret (pe_lst (pa_cons (pe_callB (call_max2 rfl) (by rfl) T.b_max (by decide +kernel) (pa_cons pe_int (pa_cons (pe_op op_sub (pv 3) (pe_op op_powW pe_int pe_int)) pa_nil))) (pa_cons (pe_op op_add (pe_op op_mod (pe_callTy call_int1 (by rfl) T.b_int (by decide +kernel) (pa_cons (pv 3) pa_nil)) (pe_op op_add (pe_op op_powW pe_int pe_int) pe_int)) (pe_op op_mul pe_int (pv 1))) (pa_cons pe_int pa_nil)))))))))), ?_⟩
  refine body_go [some (.d (.list (ns.map PyData.int))), some (.d (.int i)), none, none] (n := 0) rfl rfl wd ar ?_ q
  walk_at "a"
  refine ex_mid (fun E' cs' => cs' = [] ∧ ∃ c : Int, E' = [some (.d (.list (ns.map PyData.int))), some (.d (.int i)), some (.d (.int c)), none]) ?_ ?_
  · walk_at "a"
    refine iteB (fun c => ?_) (fun c => ?_)
    · have c := of_decide_eq_true c
      rw [List.length_map] at c
      obtain ⟨j, rfl⟩ : ∃ j : Nat, i = (j : Int) := ⟨i.toNat, by omega⟩
      have hj : j < ns.length := by omega
      walk_at "a"
      refine o_ixL (by rfl) (atI_nat (by rw [List.getElem?_map, List.getElem?_eq_getElem hj]; rfl)) ?_
      walk_at "a"
      exact ⟨rfl, _, rfl⟩
    · walk_at "a"
      exact ⟨rfl, _, rfl⟩
  rintro E' cs' ⟨rfl, c, rfl⟩
  walk_at "a"
  refine o_intC (.inl (by decide)) ?_
  walk_at "a"
  refine ex_mid (fun E' cs' => cs' = [] ∧ ∃ d : Int, E' = [some (.d (.list (ns.map PyData.int))), some (.d (.int i)), some (.d (.int c)), some (.d (.int d))]) ?_ ?_
  · walk_at "a"
    refine iteB (fun c => ?_) (fun c => ?_)
    · walk_at "a"
      refine o_intC (.inl (by decide)) ?_
      walk_at "a"
      exact ⟨rfl, _, rfl⟩
    · walk_at "a"
      exact ⟨rfl, _, rfl⟩
  rintro E' cs' ⟨rfl, c, rfl⟩
  walk_at "a"
  refine ev_lstD ?_
  walk_at "a"
  refine o_intC ⟨by decide, by decide⟩ ?_
  walk_at "a"
  refine o_intC ⟨by decide, by decide⟩ ?_
  walk_at "a"
  refine o_intC (by show (0 : Int) < 10 ^ 27 + 103; decide) ?_
  walk_at "a"
  refine o_intC (.inl (by decide)) ?_
  walk_at "a"
  show Rt 0 k _ _
  refine Rt.here ?_ (Nat.zero_le _) rfl rfl
  refine hk _ ⟨_, _, _, rfl, ?_, ?_, Int.le_refl 0, Int.le_refl 0⟩
  · have := Int.emod_nonneg c (show (10 ^ (27 : Int).toNat + 103 : Int) ≠ 0 by decide); show 0 ≤ c % (10 ^ (27 : Int).toNat + 103) + 65537 * i; omega
  · have h1 := Int.emod_lt_of_pos c (show (0 : Int) < 10 ^ (27 : Int).toNat + 103 by decide)
    show c % (10 ^ (27 : Int).toNat + 103) + 65537 * i < 2 ^ 200
    have h2 : (10 ^ (27 : Int).toNat + 103 : Int) + 65537 * 1000 < 2 ^ 200 := by decide
    omega
end
end Y

/-! # a law, over pure states -/
namespace Y
open PySem L2
def spLaw (K : PySem.W.Frag) : Sp := fun vs H Q _ => ∃ (a : Addr) (ns : List Int), vs = [.ref a] ∧ SqL K H a (ns.map V.int) ∧ ns.length ≤ 63 ∧ ∀ H', Q (.bl true) H'
def ApLaw : ASp := fun xs cs k => ∃ ns : List Int, xs = [.d (.list (ns.map PyData.int))] ∧ cs = [] ∧ ns.length ≤ 63 ∧ k (.d (.bool true)) []
theorem dp_intsV {K : PySem.W.Frag} {H : Hp} : ∀ ns : List Int, DpAll K H (ns.map V.int) (ns.map PyData.int)
  | [] => .nil
  | n :: ns => .cons (.int n) (dp_intsV ns)
/-- all that stands is frozen -/
theorem Wd.whole {K : PySem.W.Frag} {C : Addr} {H : Hp} : Wd K C H [] [] H := ⟨Same.refl H, fun i own h => by simp at h, fun i j own own' h => by simp at h, fun i own h => by simp at h, rfl, fun i own c h => by simp at h, fun i own h => by simp at h, fun b o h _ => h⟩
theorem law_of {K : PySem.W.Frag} {C : Addr} {P : Program} {w : World} {mg : Str → Option Value} {base : Heap} {n : Nat} {a : Addr} {fd : FuncData} {ps : List Str} (h : FnOk P w K mg base CX0 n a fd ps (spA K C ApLaw)) : FnOk P w K mg base CX0 n a fd ps (spLaw K) := h.imp fun vs H Q E ⟨b, ns, hv, hs, hl, q⟩ => by
  subst hv
  exact ⟨H, [], [], [.d (.list (ns.map PyData.int))], fun r _ => r = .d (.bool true), Wd.whole, .cons (.d (.lst hs (dp_intsV ns))) .nil, ⟨ns, rfl, rfl, hl, rfl⟩, fun r cs' v F' as' H' hr _ _ hv => by
    subst hr
    cases hv with | d hv => rw [hv.bl_inv]; exact q H'⟩
end Y

/-! # calls without cells, over pure states -/
namespace Y
open PySem L2
mutual
theorem AV.ren0 {ρ : Nat → Nat} : ∀ {x : AV}, AV.lt 0 x = true → x.ren ρ = x
  | .d _, _ => rfl
  | .tup xs, h => by
    have := AV.renAll0 (ρ := ρ) (xs := xs) h
    show AV.tup (AV.renAll ρ xs) = _
    rw [this]
  | .cel i, h => by simp [AV.lt] at h
  | .sub i j, h => by simp [AV.lt] at h
  | .scr _, _ => rfl
  | .ty _, _ => rfl
  | .dct, _ => rfl
  | .raw _, _ => rfl
  | .exn a e f x, h => by
    have := AV.ren0 (ρ := ρ) (x := x) h
    show AV.exn a e f (x.ren ρ) = _
    rw [this]
theorem AV.renAll0 {ρ : Nat → Nat} : ∀ {xs : List AV}, AV.ltAll 0 xs = true → AV.renAll ρ xs = xs
  | [], _ => rfl
  | x :: xs, h => by
    have h : (AV.lt 0 x && AV.ltAll 0 xs) = true := h
    rw [Bool.and_eq_true] at h
    show AV.ren ρ x :: AV.renAll ρ xs = _
    rw [AV.ren0 h.1, AV.renAll0 h.2]
end
theorem CallOk.free {xs : List AV} {cs : List Cell} (h : AV.ltAll 0 xs = true) : CallOk [] xs [] xs cs :=
  ⟨List.nodup_nil, fun i hi => absurd hi List.not_mem_nil, AV.renAll0 h, h, rfl, rfl⟩
section
variable {K : PySem.W.Frag} {C cN : Addr} {F F' H H' : Hp} {as as' : Own} {cs cs' cs1 : List Cell} {E : AEnv} {k : AV → List Cell → Prop} {x y : AV} {te : TE} {tas : TA} {X : XK} {n m : Nat} {W : WX} {ex : EX}
theorem ev_callF {A : ASp} (h : Evs K C E cs tas fun xs cs2 => AV.ltAll 0 xs = true ∧ A xs [] fun y cz' => k (y.ren (rho [] cs2.length)) (putC cs2 [] (cz'.map (Cell.ren (rho [] cs2.length))))) : Ev K C E cs (tCall (spA K C A) [] X tas) k :=
  ev_call fun F as H σ Q w e z => h F as H σ Q w e fun xs cs1 v F' as' H' ⟨hl, hA⟩ => z xs cs1 v F' as' H' ⟨[], xs, [], CallOk.free hl, hA⟩
theorem calls_free {A : ASpX} {xs : List AV} {kx : KX} (hl : AV.ltAll 0 xs = true) (hA : A xs [] (fun y cz' => k (y.ren (rho [] cs.length)) (putC cs [] (cz'.map (Cell.ren (rho [] cs.length))))) fun c p cz' => kx c (p.ren (rho [] cs.length)) (putC cs [] (cz'.map (Cell.ren (rho [] cs.length))))) : Calls A xs cs k kx := ⟨[], xs, [], CallOk.free hl, hA⟩
theorem putC_nil {α : Type} (xs : List α) : putC xs [] [] = xs := by simp [putC]
/-- == of any values that are the same -/
def rEqU (K : PySem.W.Frag) : R2 := fun x y H Q => rEqA K x y H Q ∨ rEqDA x y H Q
theorem op_eqUK {X : Cx} (K : PySem.W.Frag) (hu : X.A.units + 65 < cLine) (hK : X.K = K := by rfl) : OpR X (compareOp .Eq) (rEqU K) := (op_eqAK K hu hK).or (op_eq_dictA (by omega))
theorem o_eqU1 (h : O2 K C (rEqA K) x y cs k) : O2 K C (rEqU K) x y cs k := fun F as H v u Q w r1 r2 q => .inl (h F as H v u Q w r1 r2 q)
theorem o_eqU2 (h : k (.d (.bool true)) cs) : O2 K C (rEqU K) .dct .dct cs k := fun F as H v u Q w r1 r2 q => by
  cases r1 with | dct r1 =>
  cases r2 with | dct r2 =>
  exact .inr ⟨_, _, [], [], rfl, rfl, w.fro _ _ r1, w.fro _ _ r2, rfl, fun p hp => absurd hp List.not_mem_nil, q.now h w (.d (.bl true))⟩
end
end Y

/-! # comprehensions over data; the shape of data -/
namespace Y
open PySem L2
section
variable {K : PySem.W.Frag} {C : Addr} {F F' H H' : Hp} {as as' : Own} {E : AEnv} {cs cs' : List Cell} {k : AV → List Cell → Prop}
variable {ta tb te tc : TE} {tas tar : TA} {n m : Nat} {D : AEnds} {vs : List Nat} {cs1 : List Cell}
theorem line_ltW {n : Nat} (h : n < 10000000) : n < sizeLine := Nat.lt_of_lt_of_le h (by decide)
/-- [e for g in wi if tt]: the items are data, many of them -/
theorem ev_lcW {k : AV → List Cell → Prop} {wi : TI} {g : TG} {tt : TT} (m : Nat) (h : Evi K C m E cs wi fun items ok cs1 => m = cs1.length ∧ items.length ≤ 9999999 ∧ ∃ Iv : Nat → List PyData → List Cell → Prop, Iv 0 [] cs1 ∧ (∀ i acc cs', Iv i acc cs' → ok cs') ∧
      (∀ i y acc cs', items[i]? = some y → Iv i acc cs' → EgC K C vs (wipeE E vs) y cs' g fun E2 cs2 => Evt K C E2 cs2 tt fun b cs3 =>
        if b = true then Ev K C E2 cs3 te fun z cs4 => ∃ d, z = .d d ∧ Cl m (fun _ => Iv (i + 1) (acc ++ [d])) [] cs4 else Cl m (fun _ => Iv (i + 1) acc) [] cs3) ∧
      ∀ acc cs', Iv items.length acc cs' → k (.cel cs'.length) (cs' ++ [.l acc])) : Ev K C E cs (tLc wi g tt te vs) k := fun F as H σ Q w e z => by
  refine h F as H σ _ w e fun items ok cs1 F1 as1 H1 J ⟨hm, hlen, Iv, h0, hok, hstep, hend⟩ s1 w1 src => ?_
  subst hm
  intro L hL
  have hL1 : F1 L = none := w1.fro.free hL
  have hLA : ¬ inA as1 L := fun ⟨i, own, hi, hb⟩ => (w1.dis i own hi L hb).2 hL
  have e1 := (e.mono s1.f s1.pre).wipe vs
  have sL : Stp cs1.length F1 as1 H1 F1 as1 (upd H1 L (.lst [])) := ⟨Same.refl F1, fun i _ own h => ⟨[], by rw [List.append_nil]; exact h⟩, fun b o h _ => (Same.new hL) b o h, fun b h => (Wd.newF.updN0 h).2, fun b o h => .inl h, fun b h => .inl h⟩
  refine ⟨fun i mm H => i + mm = items.length ∧ ∃ acc xs cs' F' as', Iv i acc cs' ∧ acc.length ≤ i ∧ Stp cs1.length F1 as1 H1 F' as' H ∧ Wd K C F' as' cs' H ∧ ¬ inA as' L ∧ F' L = none ∧ H L = some (.lst xs) ∧ DpAll K F' xs acc,
    ⟨items.length, by omega, [], [], cs1, F1, as1, h0, Nat.le_refl 0, sL, w1.out hLA hL1 trivial, hLA, hL1, upd_same, .nil⟩, ?_⟩
  rintro i mm H ⟨him, acc, xs, cs', F', as', hI, hal, sI, wI, nA, nF, hx, hxs⟩
  cases mm with
  | zero =>
    have hi : i = items.length := by omega
    subst hi
    refine .inl ⟨src.stop F' as' cs' H (hok _ _ _ hI) sI wI, ?_⟩
    have w2 := wI.adopt nA nF hx trivial (c := .l acc) (.l hx hxs)
    refine z _ _ _ F' _ H (hend acc cs' hI) ?_ w2 (.cel (r := []) ?_)
    · have sI' : Stp as1.length F1 as1 H1 F' as' H := sI.weak (by rw [w1.len]; exact Nat.le_refl _)
      have t := s1.tr sI'
      refine ⟨t.f, fun i hi own ho => ?_, t.fr, t.dm, t.nf, fun b ⟨i, own, hi, hb⟩ => ?_⟩
      · obtain ⟨r, hr⟩ := t.a i hi own ho
        exact ⟨r, by rw [List.getElem?_append_left (List.getElem?_eq_some_iff.mp hr).1]; exact hr⟩
      · rcases get_snoc hi with hi | ⟨rfl, rfl⟩
        · exact t.na b ⟨i, own, hi, hb⟩
        · rw [List.mem_singleton.mp hb]; exact .inr (s1.dm L hL)
    · rw [← wI.len, List.getElem?_append_right (Nat.le_refl _)]; simp
  | succ mm =>
    obtain ⟨y, hy⟩ : ∃ y, items[i]? = some y := ⟨_, List.getElem?_eq_getElem (by omega)⟩
    obtain ⟨hgo, hy2⟩ := src.turn i y F' as' cs' H hy (hok _ _ _ hI) sI wI
    refine .inr ⟨hgo, fun H' => (i + 1) + mm = items.length ∧ ∃ acc xs cs' F' as', Iv (i + 1) acc cs' ∧ acc.length ≤ i + 1 ∧ Stp cs1.length F1 as1 H1 F' as' H' ∧ Wd K C F' as' cs' H' ∧ ¬ inA as' L ∧ F' L = none ∧ H' L = some (.lst xs) ∧ DpAll K F' xs acc, fun H' h => ⟨mm, by omega, h⟩, fun x H2 hx2 => ?_⟩
    obtain ⟨F2, s2, w2, r2⟩ := hy2 x H2 hx2
    have hmI : cs1.length ≤ as'.length := sI.len (by rw [w1.len]; exact Nat.le_refl _)
    -- the outer list through a step
    have keepL : ∀ {F3 as3 H3}, Stp as'.length F' as' H F3 as3 H3 → ¬ inA as3 L ∧ F3 L = none ∧ H3 L = some (.lst xs) := fun {F3 as3 H3} t =>
      ⟨fun q => (t.na L q).elim nA fun q => by (rw [hx] at q; cases q), nonF t nF hx, t.fr L _ hx nA⟩
    have eI : EnvR K C F2 as' (wipeE E vs) (wipe σ vs) := ⟨e1.len, fun i x h => by
      obtain ⟨v, g1, g2⟩ := e1.get i x h
      refine ⟨v, g1, (g2.mono sI.f ?_).mono s2.f s2.pre⟩
      intro i own ho
      exact sI.a i (by rw [← w1.len]; exact (List.getElem?_eq_some_iff.mp ho).1) own ho⟩
    refine hstep i y acc cs' hy hI F2 as' H2 _ _ x _ w2 eI r2 wipe_wipe fun E3 σ3 h3 e3 hw3 => ⟨hw3, ?_⟩
    refine h3 F2 as' H2 σ3 _ w2 e3 fun b cs3 F3 as3 H3 h4 s3 w3 => ?_
    have s13 := s2.tr s3
    cases b with
    | false =>
      obtain ⟨ms, j, _, hj, _, hc, hp⟩ := h4
      obtain ⟨q1, q2, q3⟩ := keepL s13
      refine ⟨by omega, acc, xs, cs3.take j, F3, as3.take j, hp, by omega, ((sI.trans (s13.weak hmI)).cut hj), w3.cut (fun c hc' => ltC_get hc hc'), fun ⟨i, own, hi, hb⟩ => q1 ⟨i, own, (get_take hi).1, hb⟩, q2, q3, (s13.f).dpAll hxs⟩
    | true =>
      refine h4 F3 as3 H3 σ3 _ w3 (e3.mono s3.f s3.pre) fun zv cs4 v F4 as4 H4 ⟨dd, hz, h5⟩ s4 w4 r4 => ?_
      subst hz
      cases r4 with | d r4 =>
      have s14 := s13.tr s4
      obtain ⟨q1, q2, q3⟩ := keepL s14
      have hxl := hxs.length
      obtain ⟨ms, j, _, hj, _, hc, hp⟩ := h5
      have w5 := w4.cut (n := j) (fun c hc' => ltC_get hc hc')
      have q1' : ¬ inA (as4.take j) L := fun ⟨i, own, hi, hb⟩ => q1 ⟨i, own, (get_take hi).1, hb⟩
      refine ⟨xs, q3, line_ltW (by omega), by omega, acc ++ [dd], _, cs4.take j, F4, as4.take j, hp, by rw [List.length_append]; simp; omega, ?_, w5.out q1' q2 trivial, q1', q2, upd_same, (s14.f.dpAll hxs).snoc r4⟩
      have t := (sI.trans (s14.weak hmI)).cut hj
      exact ⟨t.f, t.a, fun b o h n => by
        have nz : b ≠ L := fun q => by rw [q, hL] at h; cases h
        rw [upd_ne nz]; exact t.fr b o h n, fun b h => t.dm b (Wd.newF.updN0 h).2, t.nf, t.na⟩
/-- [e for x in data if test], nothing changes -/
theorem ev_lcL {te : TE} {wi : TI} {g : TG} {tt : TT} {vs : List Nat} (m : Nat) (h : Evi K C m E cs wi fun items ok cs1 => cs1.length = m ∧ ∃ (ds : List PyData) (f : PyData → Bool) (v : PyData → PyData), items = ds.map AV.d ∧ ds.length ≤ 9999999 ∧ ok cs1 ∧ ltC m cs1 = true ∧
      (∀ d, d ∈ ds → EgC K C vs (wipeE E vs) (.d d) cs1 g fun E2 cs2 => Evt K C E2 cs2 tt fun b cs3 => b = f d ∧ cs3.take m = cs1 ∧ (b = true → Ev K C E2 cs3 te fun z cs4 => z = .d (v d) ∧ cs4.take m = cs1)) ∧
      k (.cel m) (cs1 ++ [.l ((ds.filter f).map v)])) : Ev K C E cs (tLc wi g tt te vs) k := by
  refine ev_lcW m fun F as H σ R w e q => h F as H σ R w e fun items ok cs1 F1 as1 H1 J ⟨hl, ds, f, v, hit, hz, hok, hlt, hstep, hk⟩ => q items ok cs1 F1 as1 H1 J ⟨hl.symm, by rw [hit, List.length_map]; exact hz, fun i acc cs' => cs' = cs1 ∧ acc = ((ds.take i).filter f).map v, ⟨rfl, rfl⟩, fun i acc cs' hi => by rw [hi.1]; exact hok, ?_, ?_⟩
  · rintro i y acc cs' hy ⟨rfl, rfl⟩
    rw [hit, List.getElem?_map] at hy
    obtain ⟨d, hd, rfl⟩ := Option.map_eq_some_iff.mp hy
    have htk : ds.take (i + 1) = ds.take i ++ [d] := by rw [List.take_add_one, hd]; rfl
    intro F as H σ0 σ v' Q w e r hw q
    refine hstep d (List.mem_of_getElem? hd) F as H σ0 σ v' Q w e r hw fun E' σ' hE e' hw' => q E' σ' ?_ e' hw'
    intro F as H σ Q w e z
    refine hE F as H σ Q w e fun b cs3 F' as' H' ⟨hb, h3, h4⟩ => z b cs3 F' as' H' ?_
    cases b with
    | false =>
      refine ite_f ⟨[], m, rfl, Nat.le_refl m, rfl, by rw [h3]; exact hlt, h3, ?_⟩
      rw [htk, List.filter_append, List.filter_cons_of_neg (by rw [← hb]; decide)]; simp
    | true =>
      refine ite_t fun F as H σ Q w e z => h4 rfl F as H σ Q w e fun z' cs4 v' F' as' H' ⟨hz', h5⟩ => z z' cs4 v' F' as' H' ⟨v d, hz', [], m, rfl, Nat.le_refl m, rfl, by rw [h5]; exact hlt, h5, ?_⟩
      rw [htk, List.filter_append, List.filter_cons_of_pos (by rw [← hb])]; simp
  · rintro acc cs' ⟨rfl, rfl⟩
    rw [hit, List.length_map, List.take_length, hl]; exact hk
end
/-! ### the shape of rows and faults -/
def Flat (n : Nat) (d : PyData) : Prop := PyData.canLay0 d = true ∧ PyData.depth d ≤ n
theorem flat_all {n : Nat} : ∀ {ds : List PyData}, (∀ d ∈ ds, Flat n d) → PyData.canLayAll0 ds = true ∧ PyData.depthAll ds ≤ n
  | [], _ => ⟨rfl, Nat.zero_le _⟩
  | d :: ds, h => by
    obtain ⟨h1, h2⟩ := flat_all (ds := ds) fun x hx => h x (List.mem_cons_of_mem _ hx)
    obtain ⟨h3, h4⟩ := h d (List.mem_cons_self ..)
    refine ⟨by rw [PyData.canLayAll0, h3, h1]; rfl, ?_⟩
    rw [PyData.depthAll]; omega
theorem flat_list {n : Nat} {ds : List PyData} (h : ∀ d ∈ ds, Flat n d) : Flat (n + 1) (.list ds) := by
  obtain ⟨h1, h2⟩ := flat_all h
  exact ⟨by rw [PyData.canLay0]; exact h1, by rw [PyData.depth]; omega⟩
theorem flat_tup {n : Nat} {ds : List PyData} (h : ∀ d ∈ ds, Flat n d) : Flat (n + 1) (.tuple ds) := by
  obtain ⟨h1, h2⟩ := flat_all h
  exact ⟨by rw [PyData.canLay0]; exact h1, by rw [PyData.depth]; omega⟩
theorem Flat.shaped {n : Nat} {d : PyData} (h : Flat n d) (hn : n ≤ 64) : SeqAt.shaped d = true := by
  unfold SeqAt.shaped
  rw [h.1, decide_eq_true (Nat.le_trans h.2 hn)]; rfl
theorem Flat.mono {n m : Nat} {d : PyData} (h : Flat n d) (hn : n ≤ m) : Flat m d := ⟨h.1, Nat.le_trans h.2 hn⟩
theorem flt_int {i : Int} : Flat 0 (.int i) := ⟨rfl, Nat.le_refl _⟩
theorem flat_bool {i : Bool} : Flat 0 (.bool i) := ⟨rfl, Nat.le_refl _⟩
theorem Flat.eqv {n : Nat} {d : PyData} (h : Flat n d) : PyData.eqv d d = true := SeqAt.eqv_refl d h.1
end Y

/-! # != of lists of like items; str of an int or a text -/
namespace L2
open PySem PySem.Spec PyProof.Rows
section
variable {X : Cx}
/-- empty dicts are alike, whatever the keys' kind -/
theorem dict0 {P P' : Program} {w w' : World} {h : Heap} {a : Addr} (d : h.DictOf (mixKind P w) a []) : h.DictOf (intKind P' w') a [] := by
  obtain ⟨o, es, ep, h1, h2, h3, _, h5, _⟩ := d
  have he : es.toList = [] := by
    generalize es.toList = l at h5
    cases h5; rfl
  have he : es = #[] := by
    cases es with | mk l => simp at he; subst he; rfl
  subst he
  exact ⟨o, #[], ep, h1, h2, h3, by first | exact (fun e he => absurd he (by simp)) | simp [KeysOf], .nil, List.nodup_nil⟩
theorem eqAt_dict0 {P : Program} {w : World} {A : Around} {s : Shared} {a b : Addr} (ha : (a == sysModules) = false) (hb : (b == sysModules) = false) (da : s.heap.DictOf (mixKind P w) a []) (db : s.heap.DictOf (mixKind P w) b []) (hu : A.units < cLine) : SeqAt.EqAt A s (.ref a) (.ref b) true := by
  by_cases h : a = b
  · subst h; exact SeqAt.EqAt.same _
  · exact SeqAt.EqAt.of_refs h fun prog w2 E Q hq => PySem.W.keq_eq (knd := intKind prog w2) (r := true) ha hb (dict0 da) (dict0 db) hu (fun _ => .nil) hq
/-- items that == tells equal -/
def PairOk (K : PySem.W.Frag) (H : Hp) (v u : V) : Prop := (∃ d, Dp K H v d ∧ Dp K H u d ∧ SeqAt.shaped d = true ∧ PyData.eqv d d = true) ∨ ∃ a b, v = .ref a ∧ u = .ref b ∧ H a = some (.dK []) ∧ H b = some (.dK [])
def rNeL (K : PySem.W.Frag) : R2 := fun x y H Q => ∃ (p q : Addr) (xs ys : List V), x = .ref p ∧ y = .ref q ∧ SqL K H p xs ∧ SqL K H q ys ∧ xs.length = ys.length ∧ (∀ (i : Nat) v u, xs[i]? = some v → ys[i]? = some u → PairOk K H v u) ∧ Q (.bl false) H
theorem vals_at {xs : List V} {us : List Value} (h : Vals xs us) : ∀ {i : Nat} {u : Value}, us[i]? = some u → ∃ v, xs[i]? = some v ∧ RelV v u := by
  induction h with
  | nil => intro i u e; simp at e
  | cons h t ih =>
    intro i u e
    cases i with
    | zero => simp at e; subst e; exact ⟨_, rfl, h⟩
    | succ i => obtain ⟨v, h1, h2⟩ := ih (i := i) (u := u) (by simpa using e); exact ⟨v, by simpa using h1, h2⟩
theorem op_neL (hu : X.A.units + 66 < cLine) : OpR X (compareOp .NotEq) (rNeL X.K) := by
  intro pins s σ H x y v u Q I rx ry h
  obtain ⟨p, q, xs, ys, rfl, rfl, hp, hq, hl, hpair, qq⟩ := h
  obtain rfl : v = Value.ref p := rx
  obtain rfl : u = Value.ref q := ry
  obtain ⟨its, r1, ⟨o1, n1, g1, c1, d1, e1⟩, z1⟩ := I.list hp
  obtain ⟨jts, r2, ⟨o2, n2, g2, c2, d2, e2⟩, z2⟩ := I.list hq
  have l1 := r1.length
  have l2 := r2.length
  refine SeqAt.RcNeAt.lists (e := fun _ => true) (items := its.toArray) (items2 := jts.toArray) ⟨o1, g1, c1, n1, e1⟩ ⟨o2, g2, c2, n2, e2⟩ (by simp; omega) (by omega) (fun j h1 h2 => ?_) X.prog X.w X.xe _ ?_
  · obtain ⟨v, hv, rv⟩ := vals_at r1 (i := j) (u := its.toArray[j]) (by simp at h1 ⊢)
    obtain ⟨u, hu2, ru⟩ := vals_at r2 (i := j) (u := jts.toArray[j]) (by simp at h2 ⊢)
    rcases hpair j v u hv hu2 with ⟨d, dv, du, sd, ed⟩ | ⟨a, b, rfl, rfl, ha, hb⟩
    · obtain ⟨as, ra⟩ := Dp.reads I d v _ dv rv
      obtain ⟨bs, rb⟩ := Dp.reads I d u _ du ru
      have := SeqAt.eqAt_reads d d X.A.in1 s _ _ as bs ra rb (SeqAt.canLay_of_shaped sd) (SeqAt.canLay_of_shaped sd) (SeqAt.room_of_shaped sd (by show X.A.units + 1 + 64 < cLine; omega))
      rw [ed] at this
      exact this
    · obtain ⟨_, ya, va, ra, da⟩ := (show ObjOk X.prog X.w H s.heap a (.dK []) from I.hok a _ ha)
      obtain ⟨_, yb, vb, rb, db⟩ := (show ObjOk X.prog X.w H s.heap b (.dK []) from I.hok b _ hb)
      cases ra; cases rb
      have hv : its.toArray[j] = Value.ref a := rv
      have hu3 : jts.toArray[j] = Value.ref b := ru
      rw [hv, hu3]
      exact eqAt_dict0 ya yb da db (by show X.A.units + 1 < cLine; omega)
  · have e : (!(List.range its.toArray.size).all fun _ => true) = false := by simp
    rw [e]
    exact ⟨.bl false, H, I, rfl, qq⟩
theorem hu66 {k : Nat} {A : Around} (hr : Room k A) : A.units + 66 < cLine := by have := hr.un; omega
theorem op_neLK (K : PySem.W.Frag) (hu : X.A.units + 66 < cLine) (hK : X.K = K := by rfl) : OpR X (compareOp .NotEq) (rNeL K) := by subst hK; exact op_neL hu
def rNeX (K : PySem.W.Frag) : R2 := fun x y H Q => rNeL K x y H Q ∨ rNeD K x y H Q ∨ rNeDA x y H Q
theorem op_neXK (K : PySem.W.Frag) (hu : X.A.units + 66 < cLine) (hK : X.K = K := by rfl) : OpR X (compareOp .NotEq) (rNeX K) := fun pins s σ H x y v u Q I rx ry h => by
  rcases h with h | h | h
  · exact op_neLK K hu hK pins s σ H x y v u Q I rx ry h
  · subst hK; exact op_neD (by omega) pins s σ H x y v u Q I rx ry h
  · exact op_ne_dictA (by omega) pins s σ H x y v u Q I rx ry h
def rStr2 : List V → Hp → VK → Prop := fun xs H Q => (∃ i, xs = [.int i] ∧ i.natAbs.log2 < 1920 ∧ Q (.str (toString i)) H) ∨ ∃ a, xs = [.str a] ∧ Q (.str a) H
theorem call_str2 : CallR X (.type "str") rStr2 := fun pins s σ H xs us Q I r h => h.elim (fun h => call_str_int pins s σ H xs us Q I r h) (fun h => SkE.call_str_str pins s σ H xs us Q I r h)
theorem FnOk.either {P : Program} {w : World} {K : PySem.W.Frag} {mg : Str → Option Value} {base : Heap} {CX : CXT} {k : Nat} {f : Addr} {fd : FuncData} {ps : List Str} {sp1 sp2 sp : Sp} (a : FnOk P w K mg base CX k f fd ps sp1) (b : FnOk P w K mg base CX k f fd ps sp2)
    (h : ∀ vs H Q E, sp vs H Q E → sp1 vs H Q E ∨ sp2 vs H Q E) : FnOk P w K mg base CX k f fd ps sp :=
  ⟨fun vs H Q E g => (h vs H Q E g).elim (a.len vs H Q E) (b.len vs H Q E), fun A outer s H args us vs Q E hr he hb hv hs => (h vs H Q E hs).elim (a.run A outer s H args us vs Q E hr he hb hv) (b.run A outer s H args us vs Q E hr he hb hv)⟩
end
end L2
namespace Y
open PySem L2
/-- the scope of the comprehension that a def's last statement hands to a call -/
def lcIn (st : Stmt) : Scope := match (defBody st).getLast? with
  | some (.Return (some (.Call _ [.ListComp _ _ sc _] _ _)) _) => sc
  | _ => defScope st
section
variable {K : PySem.W.Frag} {C : Addr} {F F' H H' : Hp} {as as' : Own} {cs cs' cs1 : List Cell} {E : AEnv} {k : AV → List Cell → Prop} {x y : AV}
/-- a value that == tells equal to itself -/
def eqSelf : AV → Bool
  | .d d => SeqAt.shaped d && PyData.eqv d d
  | .dct => true
  | _ => false
theorem eqSelf_pair {v u : V} (h : eqSelf x = true) (w : Wd K C F as cs H) (r1 : AR K C F as x v) (r2 : AR K C F as x u) : PairOk K H v u := by
  cases x with
  | d d =>
    have h : SeqAt.shaped d = true ∧ PyData.eqv d d = true := by simpa [eqSelf] using h
    cases r1 with | d r1 =>
    cases r2 with | d r2 => exact .inl ⟨d, w.fro.dp r1, w.fro.dp r2, h.1, h.2⟩
  | dct =>
    cases r1 with | dct r1 =>
    cases r2 with | dct r2 => exact .inr ⟨_, _, rfl, rfl, w.fro _ _ r1, w.fro _ _ r2⟩
  | _ => simp [eqSelf] at h
theorem ARs.at2 : ∀ {xs : List AV} {vs us : List V} {i : Nat} {v u : V}, ARs K C F as xs vs → ARs K C F as xs us → vs[i]? = some v → us[i]? = some u → ∃ x, x ∈ xs ∧ AR K C F as x v ∧ AR K C F as x u
  | [], _, _, _, _, _, h, _, e, _ => by cases h; simp at e
  | x :: xs, _, _, 0, _, _, h, g, e1, e2 => by
    cases h with | cons h1 _ =>
    cases g with | cons g1 _ =>
    simp at e1 e2; subst e1; subst e2
    exact ⟨x, List.mem_cons_self .., h1, g1⟩
  | x :: xs, _, _, i + 1, _, _, h, g, e1, e2 => by
    cases h with | cons _ h2 =>
    cases g with | cons _ g2 =>
    obtain ⟨y, hy, r⟩ := ARs.at2 (i := i) h2 g2 (by simpa using e1) (by simpa using e2)
    exact ⟨y, List.mem_cons_of_mem _ hy, r⟩
/-- two lists of the same items -/
theorem o_neL {i j : Nat} {ys : List AV} (h1 : cs[i]? = some (.a ys)) (h2 : cs[j]? = some (.a ys)) (he : ∀ y ∈ ys, eqSelf y = true) (h : k (.d (.bool false)) cs) : O2 K C (rNeX K) (.cel i) (.cel j) cs k := fun F as H v u Q w r1 r2 q => by
  cases r1 with | cel hp =>
  cases r2 with | cel hq =>
  obtain ⟨_, xs, h3, h4⟩ := w.lsa hp h1
  obtain ⟨_, zs, h5, h6⟩ := w.lsa hq h2
  refine .inl ⟨_, _, xs, zs, rfl, rfl, SqL.of h3, SqL.of h5, by rw [← h4.length, ← h6.length], fun n v u e1 e2 => ?_, q.now h w (.d (.bl false))⟩
  obtain ⟨x, hx, g1, g2⟩ := h4.at2 h6 e1 e2
  exact eqSelf_pair (he x hx) w g1 g2
theorem o_neX {d : PyData} (h1 : datOf x cs = some d) (h2 : datOf y cs = some d) (s1 : SeqAt.shaped d = true) (s2 : PyData.eqv d d = true) (h : k (.d (.bool false)) cs) : O2 K C (rNeX K) x y cs k := fun F as H v u Q w r1 r2 q =>
  .inr (.inl (by
    have := o_neD (K := K) (C := C) (cs := cs) (x := x) (y := y) h1 h2 s1 s1 (k := k) (by rw [s2]; exact h) F as H v u Q w r1 r2 q
    exact this))
theorem o_neX0 (h : k (.d (.bool false)) cs) : O2 K C (rNeX K) .dct .dct cs k := fun F as H v u Q w r1 r2 q => by
  cases r1 with | dct r1 =>
  cases r2 with | dct r2 =>
  exact .inr (.inr ⟨_, _, [], [], rfl, rfl, w.fro _ _ r1, w.fro _ _ r2, rfl, fun p hp => absurd hp List.not_mem_nil, q.now h w (.d (.bl false))⟩)
theorem on_str2i {i : Int} (hi : i.natAbs.log2 < 1920) (h : k (.d (.str (toString i))) cs) : On K C rStr2 [.d (.int i)] cs k := fun F as H vs Q w r q => by
  cases r with | cons r1 r2 =>
  cases r2
  exact .inl ⟨i, by rw [r1.int], hi, q.now h w (.d (.str _))⟩
theorem on_str2s {a : Str} (h : k (.d (.str a)) cs) : On K C rStr2 [.d (.str a)] cs k := fun F as H vs Q w r q => by
  cases r with | cons r1 r2 =>
  cases r2
  exact .inr ⟨a, by rw [r1.str], q.now h w (.d (.str _))⟩
/-- the items of a list cell -/
def avsOf (x : AV) (cs : List Cell) : Option (List AV) := match x with
  | .cel i => match cs[i]? with
    | some (.l ds) => some (ds.map AV.d)
    | some (.a ys) => some ys
    | _ => none
  | _ => none
theorem avsOf_at {xs : List AV} {v : V} (h : avsOf x cs = some xs) (w : Wd K C F as cs H) (r : AR K C F as x v) : ∃ p vs, v = .ref p ∧ H p = some (.lst vs) ∧ ARs K C F as xs vs := by
  cases x with
  | cel i =>
    cases r with | cel hp =>
    simp only [avsOf] at h
    cases e : cs[i]? with
    | none => rw [e] at h; cases h
    | some c =>
      rw [e] at h
      cases c with
      | l ds =>
        simp at h; subst h
        obtain ⟨_, vs, h3, h4⟩ := w.lst hp e
        exact ⟨_, vs, rfl, h3, ARs.data h4⟩
      | a ys =>
        simp at h; subst h
        obtain ⟨_, vs, h3, h4⟩ := w.lsa hp e
        exact ⟨_, vs, rfl, h3, h4⟩
      | _ => simp at h
  | _ => simp [avsOf] at h
theorem o_catX {xs ys : List AV} (h1 : avsOf x cs = some xs) (h2 : avsOf y cs = some ys) (hl : xs.length + ys.length ≤ 100000) (h : k (.cel cs.length) (cs ++ [.a (xs ++ ys)])) : O2 K C rCat x y cs k := fun F as H v u Q w r1 r2 q => by
  obtain ⟨p, vs, rfl, h3, h4⟩ := avsOf_at h1 w r1
  obtain ⟨p', vs', rfl, h3', h4'⟩ := avsOf_at h2 w r2
  exact ⟨_, _, vs, vs', rfl, rfl, h3, h3', line_of (by rw [← h4.length, ← h4'.length]; exact hl), fun b hb => q.cell w hb trivial (.a upd_same ((h4.append h4').mono (Same.refl _) Pre.snoc)) h⟩
theorem on_lstX {xs : List AV} (h1 : avsOf x cs = some xs) (h : k (.cel cs.length) (cs ++ [.a xs])) : On K C (rLstOf K) [x] cs k := fun F as H vs Q w r q => by
  cases r with | cons r1 r2 =>
  cases r2
  obtain ⟨p, us, rfl, h3, h4⟩ := avsOf_at h1 w r1
  exact ⟨p, us, rfl, .inl (SqL.of h3), fun b hb => q.cell w hb trivial (.a upd_same (h4.mono (Same.refl _) Pre.snoc)) h⟩
end
end Y

/-! # texts split and joined, enumerate, over pure states -/
namespace Y
open PySem L2
section
variable {K : PySem.W.Frag} {C : Addr} {F F' H H' : Hp} {as as' : Own} {E : AEnv} {cs cs1 : List Cell} {tas : TA} {to ti : TE} {k : AV → List Cell → Prop} {X : XK} {n m : Nat}
theorem strs_of : ∀ ys : List Str, DpAll K F (ys.map V.str) (ys.map PyData.str)
  | [] => .nil
  | y :: ys => .cons (.str y) (strs_of ys)
theorem strs_dp : ∀ {ys : List Str} {vs : List V}, DpAll K F vs (ys.map PyData.str) → vs = ys.map V.str
  | [], vs, h => by cases h; rfl
  | y :: ys, vs, h => by cases h with | cons h1 h2 => rw [h1.str_inv, strs_dp h2]; rfl
/-- text.split(sep) -/
theorem ev_split (h : Ev K C E cs to fun x cs1 => ∃ a : Str, x = .d (.str a) ∧ Ev K C E cs1 ti fun y cs2 => ∃ b : Str, y = .d (.str b) ∧ (b.length == 0) = false ∧ a.length ≤ 100000 ∧ k (.cel cs2.length) (cs2 ++ [.l ((Txt.split a b).map PyData.str)])) :
    Ev K C E cs (tM1 (fun x xs H Q => ∃ a b, x = .str a ∧ xs = [.str b] ∧ (b.length == 0) = false ∧ a.length + 2 ≤ sizeLine ∧ rNewStrs (Txt.split a b) H Q) to ti) k := fun F as H σ Q w e z => by
  refine h F as H σ _ w e fun x cs1 v F1 as1 H1 ⟨a, hx, h1⟩ s1 w1 r1 => ?_
  subst hx
  refine ⟨⟨a, r1.str⟩, ?_⟩
  refine h1 F1 as1 H1 σ _ w1 (e.mono s1.f s1.pre) fun y cs2 u F2 as2 H2 ⟨b, hy, hb, hl, hk⟩ s2 w2 r2 => ?_
  subst hy
  refine ⟨a, b, r1.str, by rw [r2.str], hb, Nat.le_trans (show a.length + 2 ≤ 100002 by omega) (by decide), fun p hp => ?_⟩
  exact Kt.cell (fun a b c _ _ _ g t => z a b c _ _ _ g ((s1.tr s2).tr t)) w2 hp trivial (.l upd_same (strs_of _)) hk
/-- sep.join(list or tuple of texts) -/
theorem ev_join (h : Ev K C E cs to fun x cs1 => ∃ a : Str, x = .d (.str a) ∧ Ev K C E cs1 ti fun y cs2 => ∃ ys : List Str, (lstOf y cs2 = some (ys.map PyData.str) ∨ tupOf y = some (ys.map PyData.str)) ∧ (ys.map (·.length)).sum + ys.length * a.length ≤ 16777216 ∧ k (.d (.str (Txt.join a ys))) cs2) :
    Ev K C E cs (tM1 (rJoin K) to ti) k := fun F as H σ Q w e z => by
  refine h F as H σ _ w e fun x cs1 v F1 as1 H1 ⟨a, hx, h1⟩ s1 w1 r1 => ?_
  subst hx
  refine ⟨⟨a, r1.str⟩, ?_⟩
  refine h1 F1 as1 H1 σ _ w1 (e.mono s1.f s1.pre) fun y cs2 u F2 as2 H2 ⟨ys, hy, hl, hk⟩ s2 w2 r2 => ?_
  rcases hy with hy | hy
  · obtain ⟨p, xs, rfl, h3, h4⟩ := lstOf_at hy w2 r2
    exact ⟨a, p, ys, r1.str, rfl, .inl (by rw [← strs_dp h4]; exact h3), hl, z _ cs2 _ F2 as2 H2 hk (s1.tr s2) w2 (.d (.str _))⟩
  · obtain ⟨p, xs, rfl, h3, h4, _⟩ := tupOf_at hy w2 r2
    exact ⟨a, p, ys, r1.str, rfl, .inr (by rw [← strs_dp h4]; exact h3), hl, z _ cs2 _ F2 as2 H2 hk (s1.tr s2) w2 (.d (.str _))⟩
/-- for i, d in enumerate(a list cell) -/
theorem ei_enumC {ki : List AV → (List Cell → Prop) → List Cell → Prop} (j : Nat) (hj : j < m) (h : Evs K C E cs tas fun xs cs1 => xs = [.cel j] ∧ ∃ ds, cs1[j]? = some (.l ds) ∧ ki (ds.mapIdx fun i d => .d (.tuple [.int (i : Nat), d])) (fun cs2 => cs2[j]? = some (.l ds)) cs1) : Evi K C m E cs (iEnum K tas) ki := fun F as H σ R w e q => by
  refine h F as H σ _ w e fun xs cs1 vs F1 as1 H1 ⟨hx, ds, hc, h1⟩ s1 w1 r1 => ?_
  subst hx
  cases r1 with | cons r1 r2 =>
  cases r2
  cases r1 with | @cel _ p qs hp =>
  obtain ⟨rfl, us, hH, hd⟩ := w1.lst hp hc
  refine ⟨p, us, rfl, SqL.of hH, q _ _ cs1 F1 as1 H1 _ h1 s1 w1 ⟨fun t y F2 as2 cs2 H2 ht hok s2 w2 => ?_, fun F2 as2 cs2 H2 hok s2 w2 => ?_⟩⟩
  · obtain ⟨r, hr⟩ := s2.a j hj _ hp
    obtain ⟨_, vs2, hH2, hd2⟩ := w2.lst hr hok
    rw [List.getElem?_mapIdx] at ht
    obtain ⟨d, hdd, rfl⟩ := Option.map_eq_some_iff.mp ht
    obtain ⟨v, hv, rv⟩ := (ARs.data (C := C) (as := as2) hd2).get (i := t) (x := .d d) (by rw [List.getElem?_map, hdd]; rfl)
    have hs2 : SqL K H2 p vs2 := SqL.of hH2
    refine ⟨⟨vs2, v, hs2, hv⟩, fun x H' ⟨T, u, e1, e2, e3, e4⟩ => ?_⟩
    have hu := e4 vs2 hs2
    rw [hv] at hu; cases hu
    subst e1 e3
    obtain ⟨w3, s3, sF⟩ := w2.newF e2 (.tup [.int (t : Nat), v])
    cases rv with | d rv =>
    exact ⟨_, s3, w3, .d (.tupOf upd_same (.cons (.int _) (.cons (sF.dp rv) .nil)))⟩
  · obtain ⟨r, hr⟩ := s2.a j hj _ hp
    obtain ⟨_, vs2, hH2, hd2⟩ := w2.lst hr hok
    exact ⟨vs2, SqL.of hH2, by rw [List.length_mapIdx, hd2.length]; exact Nat.le_refl _⟩
variable {kg : AEnv → List Cell → Prop}
end
end Y

namespace Y
open PySem L2
local macro_rules | `(tactic| walk_at "y") => `(tactic| repeat (first | refine ⟨_, rfl, ?_⟩ | refine ⟨_, _, rfl, rfl, ?_⟩))
def spWhole (K : PySem.W.Frag) : Sp := fun vs H Q _ => ∃ (v : V) (t : String), vs = [v] ∧ TyX K H v (.type t) ∧ t ∈ T7 ∧ Q (.bl (t == "int")) H
section
variable {P : Program} {w : World} {K : PySem.W.Frag} {mg : Str → Option Value} {base : Heap}
theorem ok_is_whole (T : Tx K mg) : FnOk P w K mg base CX0 1 T.is_whole.a T.is_whole.fd ["thing"] (spWhole K) := by
  refine T.is_whole.F.ok sc_is_whole (fun vs H Q E h => by obtain ⟨v, t, rfl, _⟩ := h; rfl) (fun cdv A outer s H vs Q E hr h => ?_)
  obtain ⟨v, t, rfl, ty, ht, q⟩ := h
  refine ⟨_, (pss_one (ps_ret (pe_and (pe_callB (call_isDK K) (by rfl) T.b_isinstance (by decide +kernel) (pa_cons (pv 0) (pa_cons (pe_bltn (v := .ty "int") (by rfl) T.b_int (by decide +kernel) rfl) pa_nil))) (pe_one (pe_not (pe_callB (call_isDK K) (by rfl) T.b_isinstance (by decide +kernel) (pa_cons (pv 0) (pa_cons (pe_bltn (v := .ty "bool") (by rfl) T.b_bool (by decide +kernel) rfl) pa_nil)))))))), ?_⟩
  refine ⟨_, rfl, v, t, "int", rfl, ty, ht, by decide, _, rfl, iteB (fun c => ?_) (fun c => ?_)⟩
  · refine ⟨_, rfl, v, t, "bool", rfl, ty, ht, by decide, _, rfl, ?_⟩
    have e : (!isTy t "bool") = (t == "int") := by
      simp only [T7, List.mem_cons, List.not_mem_nil, or_false] at ht
      rcases ht with rfl | rfl | rfl | rfl | rfl | rfl | rfl <;> first | rfl | exact absurd c (by decide) | decide
    show Q (.bl (!isTy t "bool")) H
    rw [e]; exact q
  · have e : (t == "int") = false := by
      simp only [T7, List.mem_cons, List.not_mem_nil, or_false] at ht
      rcases ht with rfl | rfl | rfl | rfl | rfl | rfl | rfl <;> first | rfl | exact absurd c (by decide) | decide
    show Q (.bl false) H
    rw [← e]; exact q
end
end Y

/-! # names.py: labels, amounts, numbers, deeds -/
namespace Y
open PySem L2
local macro_rules | `(tactic| walk_at "n") => `(tactic| repeat (first | refine ⟨_, rfl, ?_⟩ | refine ⟨_, _, rfl, rfl, ?_⟩))
def isLabelD : PyData → Bool
  | .int i => decide (0 ≤ i ∧ i ≤ 999999999999999999999999999999)
  | _ => false
def isAmountD : PyData → Bool
  | .int i => decide (-1000000000000 ≤ i ∧ i ≤ 1000000000000)
  | _ => false
def isNumberD : PyData → Bool
  | .int i => decide (1 ≤ i ∧ i ≤ 1000000000)
  | _ => false
def isNoneD : PyData → Bool
  | .none => true
  | _ => false
def spNm (K : PySem.W.Frag) (f : PyData → Bool) : Sp := fun vs H Q _ => ∃ (v : V) (d : PyData), vs = [v] ∧ Dp K H v d ∧ Q (.bl (f d)) H
/-- what comes behind a deed's word -/
def isRestD (w : Str) (r : List PyData) : Bool :=
  if w = "run" then r.isEmpty else
  if w = "end" ∨ w = "own" then decide (r.length = 1) && (if w = "end" then isNumberD (r.getD 0 .none) else isLabelD (r.getD 0 .none)) else
  if r.length ≠ 2 then false else
  if w = "add" then isLabelD (r.getD 0 .none) && isAmountD (r.getD 1 .none) else
  if isNumberD (r.getD 0 .none) = false then false else
  if w = "label" ∨ w = "write label" then isLabelD (r.getD 1 .none) else
  if w = "moves" ∨ w = "write moves" then isAmountD (r.getD 1 .none) else
  if w = "tie" ∨ w = "write tie" then isNoneD (r.getD 1 .none) || isNumberD (r.getD 1 .none) else false
theorem eqv_any (w : Str) : ∀ ws : List Str, ((ws.map PyData.str).any fun z => PyData.eqv z (.str w)) = decide (w ∈ ws)
  | [] => rfl
  | a :: ws => by
    rw [List.map_cons, List.any_cons, eqv_any w ws]
    have : PyData.eqv (.str a) (.str w) = (a == w) := by simp only [PyData.eqv]
    rw [this]
    by_cases e : a = w
    · subst e; simp
    · have e' : ¬ w = a := fun z => e z.symm
      simp [e, e']
/-- w in ("a", "b") -/
theorem inS {K : PySem.W.Frag} {te tv : TE} {σ : St} {H : Hp} {w : Str} {ws : List Str} {Q : Bool → Hp → Prop} (hv : Gv K tv σ H (.str w)) (ht : Gv K te σ H (.tuple (ws.map .str))) (hw : SeqAt.shaped (.str w) = true) (hs : SeqAt.shaped (.tuple (ws.map .str)) = true) (q : ∀ H', Same H H' → Q (decide (w ∈ ws)) H') :
    tTest (tOp (rInTD K) tv te) σ H Q := by
  refine hv H (Same.refl H) _ fun v H1 s1 h1 => ht H1 s1 _ fun u H2 s2 h2 => ⟨.str w, ws.map .str, s2.dp h1, h2, hw, hs, _, rfl, ?_⟩
  rw [eqv_any]
  exact q H2 (s1.trans s2)
theorem nmAt {K : PySem.W.Frag} {te : TE} {σ : St} {H : Hp} {d : PyData} {f : PyData → Bool} {Q : VK} (h : Gv K te σ H d) (q : ∀ H', Same H H' → Q (.bl (f d)) H') : tCall (spNm K f) [] E0 (tCons te tNil) σ H Q :=
  h H (Same.refl H) _ fun v H1 s1 h1 => ⟨v, d, rfl, h1, q H1 s1⟩
theorem atI_getD {r : List PyData} {i : Nat} (h : i < r.length) : atI r (i : Int) = some (r.getD i .none) := by
  refine atI_nat ?_
  rw [List.getD_eq_getElem?_getD, List.getElem?_eq_getElem h]; rfl
theorem eqv_empty (r : List PyData) : PyData.eqv (.tuple r) (.tuple []) = r.isEmpty := by
  cases r <;> simp only [PyData.eqv, PyData.eqvAll, List.isEmpty]
theorem shaped_cons {d : PyData} {r : List PyData} (h : SeqAt.shaped (.tuple (d :: r)) = true) : SeqAt.shaped d = true ∧ SeqAt.shaped (.tuple r) = true := by
  have h : (PyData.canLay0 (.tuple (d :: r)) && decide (PyData.depth (.tuple (d :: r)) ≤ 64)) = true := h
  have g : (PyData.canLay0 d && decide (PyData.depth d ≤ 64)) = true ∧ (PyData.canLay0 (.tuple r) && decide (PyData.depth (.tuple r) ≤ 64)) = true := by
    rw [Bool.and_eq_true] at h
    obtain ⟨h1, h3⟩ := h
    have h3 := of_decide_eq_true h3
    simp only [PyData.canLay0, PyData.canLayAll0, Bool.and_eq_true] at h1
    simp only [PyData.depth, PyData.depthAll] at h3
    refine ⟨?_, ?_⟩
    · rw [Bool.and_eq_true, decide_eq_true_eq]
      exact ⟨h1.1, by omega⟩
    · rw [Bool.and_eq_true, decide_eq_true_eq]
      refine ⟨by simp only [PyData.canLay0]; exact h1.2, ?_⟩
      simp only [PyData.depth]
      omega
  exact g
def isDeedD : PyData → Bool
  | .tuple (.str w :: rest) => isRestD w rest
  | _ => false
def spDeed (K : PySem.W.Frag) : Sp := fun vs H Q _ => ∃ (v : V) (d : PyData), vs = [v] ∧ Dp K H v d ∧ SeqAt.shaped d = true ∧ (∀ ds, d = .tuple ds → ds.length ≤ 1000) ∧ ∀ H', Same H H' → Q (.bl (isDeedD d)) H'
section
variable {P : Program} {w : World} {K : PySem.W.Frag} {mg : Str → Option Value} {base : Heap}
theorem ok_is_label (T : Tx K mg) : FnOk P w K mg base CX0 2 T.is_label.a T.is_label.fd ["thing"] (spNm K isLabelD) := by
  have G_is_whole := ok_is_whole (P := P) (w := w) (base := base) T
  refine T.is_label.F.ok sc_is_label (fun vs H Q E h => by obtain ⟨v, d, rfl, _⟩ := h; rfl) (fun cdv A outer s H vs Q E hr h => ?_)
  obtain ⟨v, d, rfl, hd, q⟩ := h
  refine ⟨_, (pss_one (ps_ret (pe_and (pe_call G_is_whole (hr.mono (by first | decide | omega)) rfl T.is_whole.g T.is_whole.F.kp T.is_whole.b .nil pass0 (pa_cons (pv 0) pa_nil)) (pe_one (pe_chain op_le op_le pe_int (pv 0) (pe_glob (v := .int 999999999999999999999999999999) rfl T.g_MOST_LABEL ⟨_, rfl⟩)))))), ?_⟩
  refine ⟨_, rfl, v, tyD d, rfl, hd.ty, tyD_mem d, _, rfl, iteB (fun c => ?_) (fun c => ?_)⟩
  · obtain ⟨i, rfl⟩ : ∃ i, d = .int i := by
      cases d <;> first | exact ⟨_, rfl⟩ | (simp [tyD] at c)
    obtain rfl := hd.int_inv
    refine ⟨_, rfl, _, _, rfl, rfl, _, rfl, iteB (fun c => ?_) (fun c => ?_)⟩
    · have c := of_decide_eq_true c
      refine ⟨_, _, rfl, rfl, ?_⟩
      simpa [isLabelD, c] using q
    · have c := of_decide_eq_false c
      simpa [isLabelD, c] using q
  · have e : isLabelD d = false := by
      cases d <;> first | rfl | (simp [tyD] at c)
    rw [e] at q; exact q
theorem ok_is_amount (T : Tx K mg) : FnOk P w K mg base CX0 2 T.is_amount.a T.is_amount.fd ["thing"] (spNm K isAmountD) := by
  have G_is_whole := ok_is_whole (P := P) (w := w) (base := base) T
  refine T.is_amount.F.ok sc_is_amount (fun vs H Q E h => by obtain ⟨v, d, rfl, _⟩ := h; rfl) (fun cdv A outer s H vs Q E hr h => ?_)
  obtain ⟨v, d, rfl, hd, q⟩ := h
  refine ⟨_, (pss_one (ps_ret (pe_and (pe_call G_is_whole (hr.mono (by first | decide | omega)) rfl T.is_whole.g T.is_whole.F.kp T.is_whole.b .nil pass0 (pa_cons (pv 0) pa_nil)) (pe_one (pe_chain op_le op_le (pe_un un_neg (pe_glob (v := .int 1000000000000) rfl T.g_MOST_AMOUNT ⟨_, rfl⟩)) (pv 0) (pe_glob (v := .int 1000000000000) rfl T.g_MOST_AMOUNT ⟨_, rfl⟩)))))), ?_⟩
  refine ⟨_, rfl, v, tyD d, rfl, hd.ty, tyD_mem d, _, rfl, iteB (fun c => ?_) (fun c => ?_)⟩
  · obtain ⟨i, rfl⟩ : ∃ i, d = .int i := by
      cases d <;> first | exact ⟨_, rfl⟩ | (simp [tyD] at c)
    obtain rfl := hd.int_inv
    refine ⟨_, rfl, _, rfl, _, _, rfl, rfl, _, rfl, iteB (fun c => ?_) (fun c => ?_)⟩
    · have c := of_decide_eq_true c
      refine ⟨_, _, rfl, rfl, ?_⟩
      simpa [isAmountD, c] using q
    · have c := of_decide_eq_false c
      simpa [isAmountD, c] using q
  · have e : isAmountD d = false := by
      cases d <;> first | rfl | (simp [tyD] at c)
    rw [e] at q; exact q
theorem ok_is_number (T : Tx K mg) : FnOk P w K mg base CX0 2 T.is_number.a T.is_number.fd ["thing"] (spNm K isNumberD) := by
  have G_is_whole := ok_is_whole (P := P) (w := w) (base := base) T
  refine T.is_number.F.ok sc_is_number (fun vs H Q E h => by obtain ⟨v, d, rfl, _⟩ := h; rfl) (fun cdv A outer s H vs Q E hr h => ?_)
  obtain ⟨v, d, rfl, hd, q⟩ := h
  refine ⟨_, (pss_one (ps_ret (pe_and (pe_call G_is_whole (hr.mono (by first | decide | omega)) rfl T.is_whole.g T.is_whole.F.kp T.is_whole.b .nil pass0 (pa_cons (pv 0) pa_nil)) (pe_one (pe_chain op_le op_le pe_int (pv 0) (pe_glob (v := .int 1000000000) rfl T.g_MOST_NUMBER ⟨_, rfl⟩)))))), ?_⟩
  refine ⟨_, rfl, v, tyD d, rfl, hd.ty, tyD_mem d, _, rfl, iteB (fun c => ?_) (fun c => ?_)⟩
  · obtain ⟨i, rfl⟩ : ∃ i, d = .int i := by
      cases d <;> first | exact ⟨_, rfl⟩ | (simp [tyD] at c)
    obtain rfl := hd.int_inv
    refine ⟨_, rfl, _, _, rfl, rfl, _, rfl, iteB (fun c => ?_) (fun c => ?_)⟩
    · have c := of_decide_eq_true c
      refine ⟨_, _, rfl, rfl, ?_⟩
      simpa [isNumberD, c] using q
    · have c := of_decide_eq_false c
      simpa [isNumberD, c] using q
  · have e : isNumberD d = false := by
      cases d <;> first | rfl | (simp [tyD] at c)
    rw [e] at q; exact q
theorem ok_is_deed (T : Tx K mg) : FnOk P w K mg base CX0 3 T.is_deed.a T.is_deed.fd ["thing"] (spDeed K) := by
  have G_is_label := ok_is_label (P := P) (w := w) (base := base) T
  have G_is_amount := ok_is_amount (P := P) (w := w) (base := base) T
  have G_is_number := ok_is_number (P := P) (w := w) (base := base) T
  refine T.is_deed.F.ok sc_is_deed (fun vs H Q E h => by obtain ⟨v, d, rfl, _⟩ := h; rfl) (fun cdv A outer s H vs Q E hr h => ?_)
  obtain ⟨v, d, rfl, hd, sh, hl, q⟩ := h
  refine ⟨_, (pss_cons (ps_if (PW.pt (pw_or (pt_not (pt_val (pe_callB (call_isDK K) (by rfl) T.b_isinstance (by decide +kernel) (pa_cons (pv 0) (pa_cons (pe_bltn (v := .ty "tuple") (by rfl) T.b_tuple (by decide +kernel) rfl) pa_nil))))) (pw_or (pt_cmpR op_eq (pe_callB (call_lenK K) (by rfl) T.b_len (by decide +kernel) (pa_cons (pv 0) pa_nil)) pe_int (nomark _)) (pw_or1 (pt_not (pt_val (pe_callB (call_isDK K) (by rfl) T.b_isinstance (by decide +kernel) (pa_cons (pe_ix (ix_tupK K) (pv 0) pe_int (fun _ _ => rfl)) (pa_cons (pe_bltn (v := .ty "str") (by rfl) T.b_str (by decide +kernel) rfl) pa_nil)))))))))
  (pss_one (ps_ret pe_bl))
  pss_nil)
  (pss_cons (ps_par (i := 1) (j := 2) rfl sc_is_deed.nd rfl rfl (by decide) rfl rfl (pa_cons (pe_ix (ix_tupK K) (pv 0) pe_int (fun _ _ => rfl)) (pa_cons (pe_slice (sl_tupK K) (pv 0) (po_some pe_int) po_no) pa_nil)) rfl)
  (pss_cons (ps_if (pt_cmpR op_eq (pv 1) pe_str (nomark _))
  (pss_one (ps_ret (pe_cmpR (op_eqDK K (hu65 hr)) (pv 2) (pe_tup pa_nil) (nomark _))))
  pss_nil)
  (pss_cons (ps_if (pt_cmpR (op_inTDK K (hu65 hr)) (pv 1) (pe_tup (pa_cons pe_str (pa_cons pe_str pa_nil))) (by rfl))
  (pss_one (ps_ret (pe_and (pe_cmpR op_eq (pe_callB (call_lenK K) (by rfl) T.b_len (by decide +kernel) (pa_cons (pv 2) pa_nil)) pe_int (nomark _)) (pe_one (pe_ifExp (pt_cmpR op_eq (pv 1) pe_str (nomark _)) (pe_call G_is_number (hr.mono (by first | decide | omega)) rfl T.is_number.g T.is_number.F.kp T.is_number.b .nil pass0 (pa_cons (pe_ix (ix_tupK K) (pv 2) pe_int (fun _ _ => rfl)) pa_nil)) (pe_call G_is_label (hr.mono (by first | decide | omega)) rfl T.is_label.g T.is_label.F.kp T.is_label.b .nil pass0 (pa_cons (pe_ix (ix_tupK K) (pv 2) pe_int (fun _ _ => rfl)) pa_nil)))))))
  pss_nil)
  (pss_cons (ps_if (pt_cmpR op_ne (pe_callB (call_lenK K) (by rfl) T.b_len (by decide +kernel) (pa_cons (pv 2) pa_nil)) pe_int (nomark _))
  (pss_one (ps_ret pe_bl))
  pss_nil)
  (pss_cons (ps_if (pt_cmpR op_eq (pv 1) pe_str (nomark _))
  (pss_one (ps_ret (pe_and (pe_call G_is_label (hr.mono (by first | decide | omega)) rfl T.is_label.g T.is_label.F.kp T.is_label.b .nil pass0 (pa_cons (pe_ix (ix_tupK K) (pv 2) pe_int (fun _ _ => rfl)) pa_nil)) (pe_one (pe_call G_is_amount (hr.mono (by first | decide | omega)) rfl T.is_amount.g T.is_amount.F.kp T.is_amount.b .nil pass0 (pa_cons (pe_ix (ix_tupK K) (pv 2) pe_int (fun _ _ => rfl)) pa_nil))))))
  pss_nil)
  (pss_cons (ps_if (pt_not (pt_val (pe_call G_is_number (hr.mono (by first | decide | omega)) rfl T.is_number.g T.is_number.F.kp T.is_number.b .nil pass0 (pa_cons (pe_ix (ix_tupK K) (pv 2) pe_int (fun _ _ => rfl)) pa_nil))))
  (pss_one (ps_ret pe_bl))
  pss_nil)
  (pss_cons (ps_if (pt_cmpR (op_inTDK K (hu65 hr)) (pv 1) (pe_tup (pa_cons pe_str (pa_cons pe_str pa_nil))) (by rfl))
  (pss_one (ps_ret (pe_call G_is_label (hr.mono (by first | decide | omega)) rfl T.is_label.g T.is_label.F.kp T.is_label.b .nil pass0 (pa_cons (pe_ix (ix_tupK K) (pv 2) pe_int (fun _ _ => rfl)) pa_nil))))
  pss_nil)
  (pss_cons (ps_if (pt_cmpR (op_inTDK K (hu65 hr)) (pv 1) (pe_tup (pa_cons pe_str (pa_cons pe_str pa_nil))) (by rfl))
  (pss_one (ps_ret (pe_call G_is_amount (hr.mono (by first | decide | omega)) rfl T.is_amount.g T.is_amount.F.kp T.is_amount.b .nil pass0 (pa_cons (pe_ix (ix_tupK K) (pv 2) pe_int (fun _ _ => rfl)) pa_nil))))
  pss_nil)
  (pss_one (ps_ret (pe_and (pe_cmpR (op_inTDK K (hu65 hr)) (pv 1) (pe_tup (pa_cons pe_str (pa_cons pe_str pa_nil))) (by rfl)) (pe_one (pe_or (pe_cmpR op_isN (pe_ix (ix_tupK K) (pv 2) pe_int (fun _ _ => rfl)) pe_non (nomark _)) (pe_one (pe_call G_is_number (hr.mono (by first | decide | omega)) rfl T.is_number.g T.is_number.F.kp T.is_number.b .nil pass0 (pa_cons (pe_ix (ix_tupK K) (pv 2) pe_int (fun _ _ => rfl)) pa_nil))))))))))))))))), ?_⟩
  refine ⟨_, rfl, v, tyD d, "tuple", rfl, hd.ty, tyD_mem d, by decide, _, rfl, iteB (fun c => ?_) (fun c => ?_)⟩
  · have e : isDeedD d = false := by cases d <;> first | rfl | (simp [tyD, isTy] at c)
    have := q H (Same.refl H)
    rw [e] at this; exact this
  obtain ⟨ds, rfl⟩ : ∃ ds, d = .tuple ds := by
    cases d <;> first | exact ⟨_, rfl⟩ | (simp [tyD, isTy] at c)
  have hl := hl ds rfl
  obtain ⟨a, xs, rfl, hx, hxs⟩ := hd.tup_inv
  have hlen := hxs.length
  refine ⟨_, rfl, _, xs.length, rfl, .inr ⟨xs, hx, rfl⟩, rfl, _, rfl, iteB (fun c => ?_) (fun c0 => ?_)⟩
  · have c := of_decide_eq_true c
    obtain rfl : ds = [] := by
      have : V.int (xs.length : Int) = .int 0 := c
      injection this with this
      exact List.length_eq_zero_iff.mp (by omega)
    exact q H (Same.refl H)
  cases ds with
  | nil =>
    exfalso
    rw [hlen] at c0
    exact absurd c0 (by decide)
  | cons d0 rest =>
  obtain ⟨v0, e0, h0⟩ := hxs.get (i := 0) (d := d0) rfl
  refine ⟨_, rfl, a, xs, 0, v0, rfl, rfl, hx, atI_nat e0, v0, tyD d0, "str", rfl, h0.ty, tyD_mem d0, by decide, _, rfl, iteB (fun c => ?_) (fun c => ?_)⟩
  · have e : isDeedD (.tuple (d0 :: rest)) = false := by cases d0 <;> first | rfl | (simp [tyD, isTy] at c)
    have := q H (Same.refl H)
    rw [e] at this; exact this
  obtain ⟨w, rfl⟩ : ∃ w, d0 = .str w := by
    cases d0 <;> first | exact ⟨_, rfl⟩ | (simp [tyD, isTy] at c)
  obtain rfl := h0.str_inv
  have q : ∀ H', Same H H' → Q (.bl (isRestD w rest)) H' := q
  refine ⟨_, rfl, a, xs, 0, .str w, rfl, rfl, hx, atI_nat e0, _, rfl, _, rfl, slT_from (n := 1) (z := 1) hd rfl fun u H1 s1 hu => ?_⟩
  have hu : Dp K H1 u (.tuple rest) := hu
  have ⟨shw, shr⟩ := shaped_cons sh
  refine ⟨_, _, rfl, ?_⟩
  have lr : rest.length ≤ 1000 := by simp only [List.length_cons] at hl; omega
  obtain ⟨b, ys, rfl, hy, hys⟩ := hu.tup_inv
  have lys := hys.length
  have in2 : ∀ (p q : Str) {R : Bool → Hp → Prop} {H1 : Hp} (σ : St), σ[1]? = some (some (.str w)) → SeqAt.shaped (.tuple [.str p, .str q]) = true → (∀ H', Same H1 H' → R (decide (w = p ∨ w = q)) H') → tTest (tOp (rInTD K) (tVar 1) (tTup (tCons (tC (.str p)) (tCons (tC (.str q)) tNil)))) σ H1 R :=
    fun p q R H1 σ h1 sh' k => inS (ws := [p, q]) (gv_varS h1) (gv_tup (gs_cons gv_str (gs_cons gv_str gs_nil)) (by simp)) shw sh' fun H' s' => by
      have e : decide (w ∈ [p, q]) = decide (w = p ∨ w = q) := by simp
      rw [e]; exact k H' s'
  refine ⟨_, rfl, rfl, _, rfl, iteB (fun c => ?_) (fun c => ?_)⟩
  · -- rest == ()
    have e : w = "run" := by
      have := of_decide_eq_true c
      injection this
    have q : ∀ H', Same H H' → Q (.bl rest.isEmpty) H' := fun H' s => by
      have := q H' s
      unfold isRestD at this
      rw [if_pos e] at this; exact this
    refine ⟨_, rfl, line_of (by decide), fun p hp => ⟨.tuple rest, .tuple [], (Same.new hp).dp hu, .tupOf upd_same .nil, shr, by decide +kernel, ?_⟩⟩
    rw [eqv_empty]
    exact q _ (s1.add hp)
  have n1 : ¬ w = "run" := fun z => by rw [z] at c; exact absurd c (by decide)
  unfold isRestD at q
  rw [if_neg n1] at q
  have at0 : ∀ (σ : St) (H2 : Hp) (i : Nat), σ[2]? = some (some (.ref b)) → Same H1 H2 → i < rest.length → Gv K (tOp (rIxT K) (tVar 2) (tC (.int (i : Nat)))) σ H2 (rest.getD i .none) :=
    fun σ H2 i h1 s2 hi => gv_ixT (gv_var h1 (s2.dp hu)) gv_int (atI_getD hi)
  refine in2 _ _ _ rfl (by decide +kernel) fun H2 s2 => iteB (fun c => ?_) (fun c => ?_)
  · have c := of_decide_eq_true c
    rw [if_pos c] at q
    refine ⟨_, rfl, .ref b, ys.length, rfl, .inr ⟨ys, s2.sqT hy, rfl⟩, rfl, _, rfl, iteB (fun c2 => ?_) (fun c2 => ?_)⟩
    · have c2 : rest.length = 1 := by
        have := of_decide_eq_true c2
        injection this with this
        omega
      rw [decide_eq_true c2, Bool.true_and] at q
      refine ⟨_, rfl, rfl, _, rfl, iteB (fun c3 => ?_) (fun c3 => ?_)⟩
      · have c3 : w = "end" := by
          have := of_decide_eq_true c3
          injection this
        rw [if_pos c3] at q
        exact nmAt (at0 _ _ 0 rfl s2 (by omega)) fun H3 s3 => q H3 ((s1.trans s2).trans s3)
      · have c3 : ¬ w = "end" := fun z => by rw [z] at c3; exact absurd c3 (by decide)
        rw [if_neg c3] at q
        exact nmAt (at0 _ _ 0 rfl s2 (by omega)) fun H3 s3 => q H3 ((s1.trans s2).trans s3)
    · have c2 : ¬ rest.length = 1 := fun z => by
        rw [lys, z] at c2; exact absurd c2 (by decide)
      rw [decide_eq_false c2, Bool.false_and] at q
      exact q H2 (s1.trans s2)
  have c := of_decide_eq_false c
  rw [if_neg c] at q
  have s12 := s1.trans s2
  refine ⟨_, rfl, .ref b, ys.length, rfl, .inr ⟨ys, s2.sqT hy, rfl⟩, rfl, _, rfl, iteB (fun c2 => ?_) (fun c2 => ?_)⟩
  · have c2 : rest.length ≠ 2 := fun z => by rw [lys, z] at c2; exact absurd c2 (by decide)
    rw [if_pos c2] at q
    exact q H2 s12
  have c2 : rest.length = 2 := by
    rw [lys] at c2
    have := by simpa using c2
    omega
  rw [if_neg (fun z => z c2)] at q
  refine ⟨_, rfl, rfl, _, rfl, iteB (fun c3 => ?_) (fun c3 => ?_)⟩
  · have c3 : w = "add" := by
      have := of_decide_eq_true c3
      injection this
    rw [if_pos c3] at q
    refine nmAt (at0 _ _ 0 rfl s2 (by omega)) fun H3 s3 => ⟨_, rfl, iteB (fun c4 => ?_) (fun c4 => ?_)⟩
    · rw [c4, Bool.true_and] at q
      exact nmAt (at0 _ _ 1 rfl (s2.trans s3) (by omega)) fun H4 s4 => q H4 ((s12.trans s3).trans s4)
    · rw [c4, Bool.false_and] at q
      exact q H3 (s12.trans s3)
  have c3 : ¬ w = "add" := fun z => by rw [z] at c3; exact absurd c3 (by decide)
  rw [if_neg c3] at q
  refine nmAt (at0 _ _ 0 rfl s2 (by omega)) fun H3 s3 => ⟨_, rfl, iteB (fun c4 => ?_) (fun c4 => ?_)⟩
  · rw [if_pos (by simpa using c4)] at q
    exact q H3 (s12.trans s3)
  rw [if_neg (by simpa using c4)] at q
  have s13 := s12.trans s3
  refine in2 _ _ _ rfl (by decide +kernel) fun H4 s4 => iteB (fun c5 => ?_) (fun c5 => ?_)
  · rw [if_pos (of_decide_eq_true c5)] at q
    exact nmAt (at0 _ _ 1 rfl ((s2.trans s3).trans s4) (by omega)) fun H5 s5 => q H5 ((s13.trans s4).trans s5)
  rw [if_neg (of_decide_eq_false c5)] at q
  refine in2 _ _ _ rfl (by decide +kernel) fun H5 s5 => iteB (fun c6 => ?_) (fun c6 => ?_)
  · rw [if_pos (of_decide_eq_true c6)] at q
    exact nmAt (at0 _ _ 1 rfl (((s2.trans s3).trans s4).trans s5) (by omega)) fun H6 s6 => q H6 (((s13.trans s4).trans s5).trans s6)
  rw [if_neg (of_decide_eq_false c6)] at q
  refine in2 _ _ _ rfl (by decide +kernel) fun H6 s6 => iteB (fun c7 => ?_) (fun c7 => ?_)
  · rw [if_pos (of_decide_eq_true c7)] at q
    have s16 := ((s13.trans s4).trans s5).trans s6
    refine (at0 _ _ 1 rfl ((((s2.trans s3).trans s4).trans s5).trans s6) (by omega)).go fun v H7 s7 hv => ⟨rfl, _, rfl, iteB (fun c8 => ?_) (fun c8 => ?_)⟩
    · have e := of_decide_eq_true c8
      subst e
      have e : isNoneD (rest.getD 1 .none) = true := by
        generalize rest.getD 1 .none = d at hv
        cases hv; rfl
      rw [e, Bool.true_or] at q
      exact q H7 (s16.trans s7)
    · have e : isNoneD (rest.getD 1 .none) = false := by
        generalize rest.getD 1 .none = d at hv
        cases hv <;> first | rfl | exact absurd c8 (by decide)
      rw [e, Bool.false_or] at q
      exact nmAt (at0 _ _ 1 rfl (((((s2.trans s3).trans s4).trans s5).trans s6).trans s7) (by omega)) fun H8 s8 => q H8 ((s16.trans s7).trans s8)
  · rw [if_neg (of_decide_eq_false c7)] at q
    exact q H6 (((s13.trans s4).trans s5).trans s6)
end
end Y

set_option pp.deepTerms false
set_option pp.deepTerms.threshold 8
/-! # deeds and their texts, over pure states -/
namespace Y
open PySem L2
local macro_rules | `(tactic| walk_at "a") => `(tactic| repeat (first
  | (with_reducible apply ev_int) | (with_reducible apply ev_str) | (with_reducible apply ev_bl) | (with_reducible apply ev_non) | (with_reducible apply ev_ty)
  | ((with_reducible apply ev_var); · rfl)
  | (with_reducible apply ev_op) | (with_reducible apply ev_un) | (with_reducible apply evs_nil) | (with_reducible apply evs_cons) | (with_reducible apply ev_cb) | (with_reducible apply ev_if)
  | (with_reducible apply et_test) | (with_reducible apply et_B) | (with_reducible apply et_and) | (with_reducible apply et_or) | (with_reducible apply et_not)
  | (with_reducible apply ex_seq) | (with_reducible apply ex_name) | (with_reducible apply ex_to) | (with_reducible apply ex_ret) | (with_reducible apply ex_if) | (with_reducible apply ex_drop) | (with_reducible apply ex_retN) | (with_reducible apply ex_next)
  | (with_reducible apply ex_par) | (with_reducible apply ex_par3) | (with_reducible apply eg_sub) | (with_reducible apply eg_name)
  | (with_reducible apply o_int) | (with_reducible apply o_bl) | (with_reducible apply o1_neg)
  | (with_reducible apply ev_andV) | (with_reducible apply ev_orV) | (with_reducible apply ev_notV)
  | (with_reducible apply ev_sl) | (with_reducible apply eo_part) | (with_reducible apply eo_no) | (with_reducible apply ev_bm) | (with_reducible apply ev_bm0)
  | (with_reducible apply ite_f) | (with_reducible apply ite_t) | (with_reducible apply ev_tupD) | (with_reducible apply ev_chain)
  | ((with_reducible apply o_ixL); (· rfl); (· rfl)) | ((with_reducible apply o_ixT); (· rfl); (· rfl))
  | ((with_reducible apply o_eq); (· rfl); (· rfl); (· rfl)) | ((with_reducible apply o_ne); (· rfl); (· rfl); (· rfl))
  | (with_reducible apply o_isN) | (with_reducible apply o_notN)
  | (with_reducible apply on_int) | (with_reducible apply on_intB) | (with_reducible apply on_max) | (with_reducible apply on_min) | (with_reducible apply on_abs)
  | ((with_reducible apply on_lenL); (· rfl)) | ((with_reducible apply on_lenT); (· rfl)) | ((with_reducible apply on_isD); (· rfl); (· decide))
  | ((with_reducible apply isSub); (· rfl); (· rfl)) | (with_reducible apply isB) | (with_reducible apply isI) | (with_reducible apply is2) | (with_reducible apply is3) | (with_reducible apply isI1) | (with_reducible apply isI2) | (with_reducible apply isT) | (with_reducible apply isL) | (with_reducible apply isScr) | ((with_reducible apply isDs); (· rfl); (· rfl))
  | ((with_reducible apply o_inT); (· rfl); (· rfl); (· decide +kernel); (· decide +kernel)) | ((with_reducible apply o_eqD); (· rfl); (· rfl); (· decide +kernel); (· decide +kernel))
  | ((with_reducible apply iteT'); · first | decide +kernel | rfl) | ((with_reducible apply iteF'); · first | decide +kernel | rfl)))
theorem join_len (y : Str) (ps : List Str) : (Txt.join y ps).length ≤ (ps.map (·.length)).sum + ps.length * y.length := by
  rw [TL.join_eq]
  have hl : ∀ s : Str, s.length = (TL.tl s).length := fun s => by show s.cps.size = s.cps.toList.length; simp
  rw [hl, TL.tl_join]
  have hj : ∀ (a : List Nat) (qs : List (List Nat)), (TL.joinL a qs).length ≤ (qs.map List.length).sum + qs.length * a.length := fun a qs => by
    induction qs with
    | nil => simp [TL.joinL]
    | cons q qs ih =>
      cases qs with
      | nil => simp [TL.joinL]
      | cons r rs =>
        show (q ++ (a ++ TL.joinL a (r :: rs))).length ≤ _
        rw [List.length_append, List.length_append, List.map_cons, List.sum_cons, List.length_cons, Nat.add_mul, Nat.one_mul]
        omega
  have := hj (TL.tl y) (ps.map TL.tl)
  rw [List.map_map, List.length_map] at this
  rw [hl y]
  have e2 : (ps.map (List.length ∘ TL.tl)) = ps.map (·.length) := List.map_congr_left fun p _ => (hl p).symm
  rw [e2] at this
  exact this
theorem spA_kt {K : PySem.W.Frag} {C : Addr} {A : ASp} {vs : List V} {H : Hp} {Q : VK} {X : XK} (h : spA K C A vs H Q X) : ∃ F as cs xs k, Wd K C F as cs H ∧ ARs K C F as xs vs ∧ A xs cs k ∧ Kt K C F as H k Q := by
  obtain ⟨F, as, cs, xs, k, h1, h2, h3, h4⟩ := h
  exact ⟨F, as, cs, xs, k, h1, h2, h3, fun z cs' w F' as' H' a b c d => h4 z cs' w F' as' H' a b c d⟩
/-! ### texts of entries -/
def entD : PyData → Str
  | .none => "none"
  | .int i => toString i
  | .str s => s
  | _ => ""
def okEnt : PyData → Bool
  | .none => true
  | .int i => decide (i.natAbs < 2 ^ 110)
  | .str s => decide (s.length ≤ 20) && PyData.canLay0 (.str s)
  | _ => false
def deedT : PyData → Str
  | .tuple ds => Txt.join " " (ds.map entD)
  | _ => ""
def deedsT (ds : List PyData) : Str := Txt.join "\n" (ds.map deedT)
structure GoodD (d : PyData) : Prop where
  dd : isDeedD d = true
  en : ∃ es, d = .tuple es ∧ es.length ≤ 3 ∧ ∀ e ∈ es, okEnt e = true
theorem log_of {n : Nat} (h : n < 2 ^ 110) : n.log2 < 1920 := by
  by_cases c : n = 0
  · subst c; decide
  · have := (Nat.log2_lt c).mpr h
    omega
theorem ent_len {d : PyData} (h : okEnt d = true) : (entD d).length ≤ 120 := by
  cases d with
  | none => decide
  | int i =>
    have h : i.natAbs < 2 ^ 110 := of_decide_eq_true h
    have h2 : i.natAbs.log2 < 110 := by
      by_cases c : i.natAbs = 0
      · rw [c]; decide
      · exact (Nat.log2_lt c).mpr h
    have e := PySem.int_text_length_le (k := 110) (by decide) h2
    show (Str.ofString (toString i)).length ≤ 120
    rw [PySem.ofString_length]; omega
  | str s =>
    simp only [okEnt, Bool.and_eq_true, decide_eq_true_eq] at h
    show s.length ≤ 120
    omega
  | _ => simp [okEnt] at h
theorem ent_flat {d : PyData} (h : okEnt d = true) : Flat 0 d := by
  cases d with
  | none => exact ⟨rfl, Nat.le_refl _⟩
  | int i => exact flt_int
  | str s =>
    simp only [okEnt, Bool.and_eq_true] at h
    exact ⟨h.2, Nat.le_refl _⟩
  | _ => simp [okEnt] at h
theorem sum_le {l : List Str} {m : Nat} (h : ∀ s ∈ l, s.length ≤ m) : (l.map (·.length)).sum ≤ l.length * m := by
  induction l with
  | nil => simp
  | cons a l ih =>
    have h1 := h a (List.mem_cons_self ..)
    have h2 := ih fun x hx => h x (List.mem_cons_of_mem _ hx)
    rw [List.map_cons, List.sum_cons, List.length_cons, Nat.add_mul, Nat.one_mul]; omega
theorem ents_sum {es : List PyData} (h : ∀ e ∈ es, okEnt e = true) : ((es.map entD).map (·.length)).sum ≤ es.length * 120 := by
  have := sum_le (l := es.map entD) (m := 120) fun s hs => by
    obtain ⟨e, he, rfl⟩ := List.mem_map.mp hs
    exact ent_len (h e he)
  rwa [List.length_map] at this
theorem GoodD.len {d : PyData} (h : GoodD d) : (deedT d).length ≤ 400 := by
  obtain ⟨es, rfl, h1, h2⟩ := h.en
  have e1 := join_len " " (es.map entD)
  have e2 := ents_sum h2
  have e3 : (" " : Str).length = 1 := rfl
  rw [List.length_map, e3] at e1
  show (Txt.join " " (es.map entD)).length ≤ 400
  omega
theorem GoodD.flat {d : PyData} (h : GoodD d) : Flat 1 d := by
  obtain ⟨es, rfl, h1, h2⟩ := h.en
  exact flat_tup fun e he => ent_flat (h2 e he)
theorem deeds_sum {ds : List PyData} (h : ∀ d ∈ ds, GoodD d) : ((ds.map deedT).map (·.length)).sum ≤ ds.length * 400 := by
  have := sum_le (l := ds.map deedT) (m := 400) fun s hs => by
    obtain ⟨e, he, rfl⟩ := List.mem_map.mp hs
    exact (h e he).len
  rwa [List.length_map] at this
/-! ### any value as a deed -/
def lenOk : PyData → Bool
  | .tuple ds => decide (ds.length ≤ 1000)
  | _ => true
def deedA : AV → Option Bool
  | .d d => if (SeqAt.shaped d && lenOk d) = true then some (isDeedD d) else none
  | .dct => some false
  | _ => none
theorem GoodD.deedA {d : PyData} (h : GoodD d) : deedA (.d d) = some true := by
  obtain ⟨es, rfl, h1, h2⟩ := id h.en
  show (if _ then _ else _) = _
  rw [h.flat.shaped (by decide)]
  have : lenOk (.tuple es) = true := decide_eq_true (by omega)
  rw [this, if_pos (by decide), h.dd]
def ApDeedA : ASp := fun xs cs k => ∃ y b, xs = [y] ∧ cs = [] ∧ deedA y = some b ∧ k (.d (.bool b)) []
def spDct (K : PySem.W.Frag) : Sp := fun vs H Q _ => ∃ p, vs = [.ref p] ∧ H p = some (.dK []) ∧ Q (.bl false) H
def ApEnt : ASp := fun xs cs k => ∃ d, xs = [.d d] ∧ cs = [] ∧ okEnt d = true ∧ k (.d (.str (entD d))) []
def ApDT : ASp := fun xs cs k => ∃ ds, xs = [.cel 0] ∧ cs = [.l ds] ∧ (∀ d ∈ ds, GoodD d) ∧ ds.length ≤ 250 ∧ k (.d (.str (deedsT ds))) [.l ds]
def firstF : Nat → List Bool → Option Nat
  | _, [] => none
  | i, b :: bs => if b = false then some i else firstF (i + 1) bs
theorem firstF_at : ∀ {bs : List Bool} {j i : Nat}, (∀ t, t < i → bs[t]? = some true) → bs[i]? = some false → firstF j bs = some (j + i)
  | [], _, _, _, h => by simp at h
  | a :: bs, j, 0, _, h => by
    simp at h; subst h; rfl
  | a :: bs, j, i + 1, h0, h => by
    have h1 := h0 0 (Nat.succ_pos i)
    simp at h1; subst h1
    unfold firstF
    rw [if_neg (by decide), firstF_at (bs := bs) (j := j + 1) (i := i) (fun t ht => by simpa using h0 (t + 1) (by omega)) (by simpa using h)]
    congr 1; omega
theorem firstF_none : ∀ {bs : List Bool} {j : Nat}, (∀ t, t < bs.length → bs[t]? = some true) → firstF j bs = none
  | [], _, _ => rfl
  | a :: bs, j, h => by
    have h1 := h 0 (by simp)
    simp at h1; subst h1
    unfold firstF
    rw [if_neg (by decide), firstF_none (bs := bs) fun t ht => by simpa using h (t + 1) (by simpa using ht)]
/-- what deeds_text does: the text, or the index -/
inductive TextOf : AV → List Cell → Str ⊕ Nat → Prop
  | no {y : AV} {t : String} : tyA y [] = some t → t ≠ "list" → AV.lt 0 y = true → TextOf y [] (.inr 0)
  | bad {ys : List AV} {bs : List Bool} {i : Nat} : ys.map deedA = bs.map some → ys.length ≤ 100000 → AV.ltAll 0 ys = true → firstF 0 bs = some i → TextOf (.cel 0) [.a ys] (.inr i)
  | ok {ds : List PyData} : (∀ d ∈ ds, GoodD d) → ds.length ≤ 250 → TextOf (.cel 0) [.l ds] (.inl (deedsT ds))
def ApDTX (cN : Addr) : ASpX := fun xs cs k kx => ∃ y r, xs = [y] ∧ TextOf y cs r ∧ (∀ s, r = .inl s → k (.d (.str s)) cs) ∧ ∀ i : Nat, r = .inr i → kx cN (.fld "index" (.d (.int i))) cs
section
variable {K : PySem.W.Frag} {C : Addr} {F F' H H' : Hp} {as as' : Own} {cs cs' cs1 : List Cell} {E : AEnv} {k : AV → List Cell → Prop} {x y : AV} {te : TE} {tas : TA} {X : XK} {n m : Nat} {W : WX} {ex : EX}
theorem ev_isDeedA (h : Evs K C E cs tas fun xs cs1 => ∃ y b, xs = [y] ∧ AV.lt 0 y = true ∧ deedA y = some b ∧ k (.d (.bool b)) cs1) : Ev K C E cs (tCall (spA K C ApDeedA) [] X tas) k :=
  ev_callF fun F as H σ Q w e z => h F as H σ Q w e fun xs cs1 v F' as' H' ⟨y, b, h1, h2, h3, h4⟩ => z xs cs1 v F' as' H' ⟨by rw [h1]; show (AV.lt 0 y && true) = true; rw [h2]; rfl, y, b, h1, rfl, h3, by
    show k (.d (.bool b)) (putC cs1 [] [])
    rw [putC_nil]; exact h4⟩
theorem ev_ent (h : Evs K C E cs tas fun xs cs1 => ∃ d, xs = [.d d] ∧ okEnt d = true ∧ k (.d (.str (entD d))) cs1) : Ev K C E cs (tCall (spA K C ApEnt) [] X tas) k :=
  ev_callF fun F as H σ Q w e z => h F as H σ Q w e fun xs cs1 v F' as' H' ⟨d, h1, h2, h3⟩ => z xs cs1 v F' as' H' ⟨by rw [h1]; rfl, d, h1, rfl, h2, by
    show k (.d (.str _)) (putC cs1 [] [])
    rw [putC_nil]; exact h3⟩
/-- for i, x in enumerate(a list cell of any values) -/
theorem ei_enumCA {ki : List AV → (List Cell → Prop) → List Cell → Prop} (j : Nat) (hj : j < m) (h : Evs K C E cs tas fun xs cs1 => xs = [.cel j] ∧ ∃ ys, cs1[j]? = some (.a ys) ∧ ki (ys.mapIdx fun i y => .tup [.d (.int (i : Nat)), y]) (fun cs2 => cs2[j]? = some (.a ys)) cs1) : Evi K C m E cs (iEnum K tas) ki := fun F as H σ R w e q => by
  refine h F as H σ _ w e fun xs cs1 vs F1 as1 H1 ⟨hx, ys, hc, h1⟩ s1 w1 r1 => ?_
  subst hx
  cases r1 with | cons r1 r2 =>
  cases r2
  cases r1 with | @cel _ p qs hp =>
  obtain ⟨rfl, us, hH, hd⟩ := w1.lsa hp hc
  refine ⟨p, us, rfl, SqL.of hH, q _ _ cs1 F1 as1 H1 _ h1 s1 w1 ⟨fun t y F2 as2 cs2 H2 ht hok s2 w2 => ?_, fun F2 as2 cs2 H2 hok s2 w2 => ?_⟩⟩
  · obtain ⟨r, hr⟩ := s2.a j hj _ hp
    obtain ⟨_, vs2, hH2, hd2⟩ := w2.lsa hr hok
    rw [List.getElem?_mapIdx] at ht
    obtain ⟨d, hdd, rfl⟩ := Option.map_eq_some_iff.mp ht
    obtain ⟨v, hv, rv⟩ := hd2.get hdd
    have hs2 : SqL K H2 p vs2 := SqL.of hH2
    refine ⟨⟨vs2, v, hs2, hv⟩, fun x H' ⟨T, u, e1, e2, e3, e4⟩ => ?_⟩
    have hu := e4 vs2 hs2
    rw [hv] at hu; cases hu
    subst e1 e3
    obtain ⟨w3, s3, sF⟩ := w2.newF e2 (.tup [.int (t : Nat), v])
    exact ⟨_, s3, w3, .tup (SqT.of upd_same) (.cons (.d (.int _)) (.cons (rv.mono sF Pre.refl) .nil))⟩
  · obtain ⟨r, hr⟩ := s2.a j hj _ hp
    obtain ⟨_, vs2, hH2, hd2⟩ := w2.lsa hr hok
    exact ⟨vs2, SqL.of hH2, by rw [List.length_mapIdx, hd2.length]; exact Nat.le_refl _⟩
end
section
variable {P : Program} {w : World} {K : PySem.W.Frag} {mg : Str → Option Value} {base : Heap}
theorem ok_dct (T : Tx K mg) : FnOk P w K mg base CX0 3 T.is_deed.a T.is_deed.fd ["thing"] (spDct K) := by
  have G_is_label := ok_is_label (P := P) (w := w) (base := base) T
  have G_is_amount := ok_is_amount (P := P) (w := w) (base := base) T
  have G_is_number := ok_is_number (P := P) (w := w) (base := base) T
  refine T.is_deed.F.ok sc_is_deed (fun vs H Q E h => by obtain ⟨v, rfl, _⟩ := h; rfl) (fun cdv A outer s H vs Q E hr h => ?_)
  obtain ⟨p, rfl, hp, q⟩ := h
  refine ⟨_, (pss_cons (ps_if (PW.pt (pw_or (pt_not (pt_val (pe_callB (call_isDK K) (by rfl) T.b_isinstance (by decide +kernel) (pa_cons (pv 0) (pa_cons (pe_bltn (v := .ty "tuple") (by rfl) T.b_tuple (by decide +kernel) rfl) pa_nil))))) (pw_or (pt_cmpR op_eq (pe_callB (call_lenK K) (by rfl) T.b_len (by decide +kernel) (pa_cons (pv 0) pa_nil)) pe_int (nomark _)) (pw_or1 (pt_not (pt_val (pe_callB (call_isDK K) (by rfl) T.b_isinstance (by decide +kernel) (pa_cons (pe_ix (ix_tupK K) (pv 0) pe_int (fun _ _ => rfl)) (pa_cons (pe_bltn (v := .ty "str") (by rfl) T.b_str (by decide +kernel) rfl) pa_nil)))))))))
  (pss_one (ps_ret pe_bl))
  pss_nil)
  (pss_cons (ps_par (i := 1) (j := 2) rfl sc_is_deed.nd rfl rfl (by decide) rfl rfl (pa_cons (pe_ix (ix_tupK K) (pv 0) pe_int (fun _ _ => rfl)) (pa_cons (pe_slice (sl_tupK K) (pv 0) (po_some pe_int) po_no) pa_nil)) rfl)
  (pss_cons (ps_if (pt_cmpR op_eq (pv 1) pe_str (nomark _))
  (pss_one (ps_ret (pe_cmpR (op_eqDK K (hu65 hr)) (pv 2) (pe_tup pa_nil) (nomark _))))
  pss_nil)
  (pss_cons (ps_if (pt_cmpR (op_inTDK K (hu65 hr)) (pv 1) (pe_tup (pa_cons pe_str (pa_cons pe_str pa_nil))) (by rfl))
  (pss_one (ps_ret (pe_and (pe_cmpR op_eq (pe_callB (call_lenK K) (by rfl) T.b_len (by decide +kernel) (pa_cons (pv 2) pa_nil)) pe_int (nomark _)) (pe_one (pe_ifExp (pt_cmpR op_eq (pv 1) pe_str (nomark _)) (pe_call G_is_number (hr.mono (by first | decide | omega)) rfl T.is_number.g T.is_number.F.kp T.is_number.b .nil pass0 (pa_cons (pe_ix (ix_tupK K) (pv 2) pe_int (fun _ _ => rfl)) pa_nil)) (pe_call G_is_label (hr.mono (by first | decide | omega)) rfl T.is_label.g T.is_label.F.kp T.is_label.b .nil pass0 (pa_cons (pe_ix (ix_tupK K) (pv 2) pe_int (fun _ _ => rfl)) pa_nil)))))))
  pss_nil)
  (pss_cons (ps_if (pt_cmpR op_ne (pe_callB (call_lenK K) (by rfl) T.b_len (by decide +kernel) (pa_cons (pv 2) pa_nil)) pe_int (nomark _))
  (pss_one (ps_ret pe_bl))
  pss_nil)
  (pss_cons (ps_if (pt_cmpR op_eq (pv 1) pe_str (nomark _))
  (pss_one (ps_ret (pe_and (pe_call G_is_label (hr.mono (by first | decide | omega)) rfl T.is_label.g T.is_label.F.kp T.is_label.b .nil pass0 (pa_cons (pe_ix (ix_tupK K) (pv 2) pe_int (fun _ _ => rfl)) pa_nil)) (pe_one (pe_call G_is_amount (hr.mono (by first | decide | omega)) rfl T.is_amount.g T.is_amount.F.kp T.is_amount.b .nil pass0 (pa_cons (pe_ix (ix_tupK K) (pv 2) pe_int (fun _ _ => rfl)) pa_nil))))))
  pss_nil)
  (pss_cons (ps_if (pt_not (pt_val (pe_call G_is_number (hr.mono (by first | decide | omega)) rfl T.is_number.g T.is_number.F.kp T.is_number.b .nil pass0 (pa_cons (pe_ix (ix_tupK K) (pv 2) pe_int (fun _ _ => rfl)) pa_nil))))
  (pss_one (ps_ret pe_bl))
  pss_nil)
  (pss_cons (ps_if (pt_cmpR (op_inTDK K (hu65 hr)) (pv 1) (pe_tup (pa_cons pe_str (pa_cons pe_str pa_nil))) (by rfl))
  (pss_one (ps_ret (pe_call G_is_label (hr.mono (by first | decide | omega)) rfl T.is_label.g T.is_label.F.kp T.is_label.b .nil pass0 (pa_cons (pe_ix (ix_tupK K) (pv 2) pe_int (fun _ _ => rfl)) pa_nil))))
  pss_nil)
  (pss_cons (ps_if (pt_cmpR (op_inTDK K (hu65 hr)) (pv 1) (pe_tup (pa_cons pe_str (pa_cons pe_str pa_nil))) (by rfl))
  (pss_one (ps_ret (pe_call G_is_amount (hr.mono (by first | decide | omega)) rfl T.is_amount.g T.is_amount.F.kp T.is_amount.b .nil pass0 (pa_cons (pe_ix (ix_tupK K) (pv 2) pe_int (fun _ _ => rfl)) pa_nil))))
  pss_nil)
  (pss_one (ps_ret (pe_and (pe_cmpR (op_inTDK K (hu65 hr)) (pv 1) (pe_tup (pa_cons pe_str (pa_cons pe_str pa_nil))) (by rfl)) (pe_one (pe_or (pe_cmpR op_isN (pe_ix (ix_tupK K) (pv 2) pe_int (fun _ _ => rfl)) pe_non (nomark _)) (pe_one (pe_call G_is_number (hr.mono (by first | decide | omega)) rfl T.is_number.g T.is_number.F.kp T.is_number.b .nil pass0 (pa_cons (pe_ix (ix_tupK K) (pv 2) pe_int (fun _ _ => rfl)) pa_nil))))))))))))))))), ?_⟩
  exact ⟨_, rfl, .ref p, "dict", "tuple", rfl, .base (.dK hp), by decide, by decide, _, rfl, iteT' rfl q⟩
theorem oa_is_deed (T : Tx K mg) (C : Addr) : FnOk P w K mg base CX0 3 T.is_deed.a T.is_deed.fd ["thing"] (spA K C ApDeedA) := (ok_is_deed T).either (ok_dct T) fun vs H Q E h => by
  obtain ⟨F, as, cs, xs, k, wd, ar, ⟨y, b, rfl, rfl, hb, hk⟩, q⟩ := spA_kt h
  cases ar with | cons r1 r2 =>
  cases r2
  cases y with
  | d d =>
    cases r1 with | d r1 =>
    simp only [deedA] at hb
    split at hb
    · rename_i c
      rw [Bool.and_eq_true] at c
      cases hb
      refine .inl ⟨_, d, rfl, wd.fro.dp r1, c.1, fun ds e => ?_, fun H' s => q.same wd s hk (.d (.bl _))⟩
      have c2 := c.2
      rw [e] at c2
      exact of_decide_eq_true c2
    · cases hb
  | dct =>
    cases r1 with | dct r1 =>
    cases hb
    exact .inr ⟨_, rfl, wd.fro _ _ r1, q.now hk wd (.d (.bl _))⟩
  | _ => simp [deedA] at hb
theorem ent_walk {C : Addr} {E : AEnv} {cs : List Cell} {k : AV → List Cell → Prop} {d : PyData} (hd : okEnt d = true) (hE : E[0]? = some (some (.d d))) (hk : k (.d (.str (entD d))) cs) : True := trivial
theorem ok_entry (T : Tx K mg) (C : Addr) : FnOk P w K mg base CX0 1 T.entry_text.a T.entry_text.fd ["entry"] (spA K C ApEnt) := by
  refine T.entry_text.F.ok sc_entry_text (fun vs H Q E h => spA_len (l := 1) (fun xs cs k ⟨_, h, _⟩ => by rw [h]; rfl) h) (fun cdv A outer s H vs Q E hr h => ?_)
  obtain ⟨F, as, cs, xs, k, wd, ar, ⟨d, rfl, rfl, hd, hk⟩, q⟩ := h
  refine ⟨_, (pss_one (ps_ret (pe_ifExp (pt_cmpR op_isN (pv 0) pe_non (nomark _)) (pe_glob (v := .str "none") rfl T.g_NONE ⟨_, rfl⟩) (pe_callTy call_str2 (by rfl) T.b_str (by decide +kernel) (pa_cons (pv 0) pa_nil))))), ?_⟩
  refine body_go [some (.d d)] (n := 0) rfl rfl wd ar ?_ q
  cases d with
  | none =>
    walk_at "a"
    exact Rt.here hk (Nat.zero_le _) rfl rfl
  | int i =>
    walk_at "a"
    refine on_str2i (log_of (of_decide_eq_true hd)) ?_
    exact Rt.here hk (Nat.zero_le _) rfl rfl
  | str s =>
    walk_at "a"
    refine on_str2s ?_
    exact Rt.here hk (Nat.zero_le _) rfl rfl
  | _ => simp [okEnt] at hd
theorem ok_lentry (T : Tx K mg) (C : Addr) : FnOk P w K mg base CX0 1 T.l_entry_text.a T.l_entry_text.fd ["entry"] (spA K C ApEnt) := by
  refine T.l_entry_text.F.ok sc_l_entry_text (fun vs H Q E h => spA_len (l := 1) (fun xs cs k ⟨_, h, _⟩ => by rw [h]; rfl) h) (fun cdv A outer s H vs Q E hr h => ?_)
  obtain ⟨F, as, cs, xs, k, wd, ar, ⟨d, rfl, rfl, hd, hk⟩, q⟩ := h
  refine ⟨_, (pss_one (ps_ret (pe_ifExp (pt_cmpR op_isN (pv 0) pe_non (nomark _)) pe_str (pe_callTy call_str2 (by rfl) T.b_str (by decide +kernel) (pa_cons (pv 0) pa_nil))))), ?_⟩
  refine body_go [some (.d d)] (n := 0) rfl rfl wd ar ?_ q
  cases d with
  | none =>
    walk_at "a"
    exact Rt.here hk (Nat.zero_le _) rfl rfl
  | int i =>
    walk_at "a"
    refine on_str2i (log_of (of_decide_eq_true hd)) ?_
    exact Rt.here hk (Nat.zero_le _) rfl rfl
  | str s =>
    walk_at "a"
    refine on_str2s ?_
    exact Rt.here hk (Nat.zero_le _) rfl rfl
  | _ => simp [okEnt] at hd
theorem ok_ldeeds_text (T : Tx K mg) (C : Addr) : FnOk P w K mg base CX0 2 T.l_deeds_text.a T.l_deeds_text.fd ["acts"] (spA K C ApDT) := by
  have G_l_entry_text := ok_lentry (P := P) (w := w) (base := base) T C
  refine T.l_deeds_text.F.ok sc_l_deeds_text (fun vs H Q E h => spA_len (l := 1) (fun xs cs k ⟨_, h, _⟩ => by rw [h]; rfl) h) (fun cdv A outer s H vs Q E hr h => ?_)
  obtain ⟨F, as, cs, xs, k, wd, ar, ⟨ds, rfl, rfl, hd, hl, hk⟩, q⟩ := h
  refine ⟨_, (pss_one (ps_ret (pe_joinK K pe_str (pe_lc (own := [("deed", 1)]) (g := (gName 1)) (tt := tYes) rfl sc_l_deeds_text.nd (pi_listK K (pv 0)) (blkOk_by (N := ["acts", "deed", "entry"]) (sc := defScope s_l_deeds_text) (by decide +kernel)) (fun _ _ _ _ _ => pg_name (i := 1) sc_l_deeds_text.nd rfl (Or.inl rfl)) (fun _ _ _ _ _ => pts_nil) (fun _ _ _ _ _ => (pe_joinK K pe_str (pe_lc (own := [("entry", 2)]) (g := (gName 2)) (tt := tYes) rfl sc_l_deeds_text.nd (pi_tupK K (pv 1)) (blkOk_by (N := ["acts", "deed", "entry"]) (sc := lcIn s_l_deeds_text) (by decide +kernel)) (fun _ _ _ _ _ => pg_name (i := 2) sc_l_deeds_text.nd rfl (Or.inl rfl)) (fun _ _ _ _ _ => pts_nil) (fun _ _ _ _ _ => (pe_call G_l_entry_text (hr.mono (by first | decide | omega)) rfl T.l_entry_text.g T.l_entry_text.F.kp T.l_entry_text.b .nil pass0 (pa_cons (pv 2) pa_nil)))))))))), ?_⟩
  refine body_go [some (.cel 0), none, none] (n := 1) rfl rfl wd ar ?_ q
  walk_at "a"
  refine ev_join ?_
  walk_at "a"
  refine ⟨_, rfl, ?_⟩
  refine ev_lcL 1 (ei_listC 0 (by decide) ?_)
  walk_at "a"
  refine ⟨rfl, ds, rfl, rfl, ds, fun _ => true, fun d => .str (deedT d), rfl, by omega, rfl, rfl, fun d hdm => ?_, ?_⟩
  · obtain ⟨es, rfl, h1, h2⟩ := (hd d hdm).en
    refine egc_name (by simp) (et_yes ⟨rfl, rfl, fun _ => ?_⟩)
    show Ev _ _ _ _ _ _
    refine ev_join ?_
    walk_at "a"
    refine ⟨_, rfl, ?_⟩
    refine ev_lcL 1 (ei_tupD ?_)
    walk_at "a"
    refine ⟨rfl, es, fun _ => true, fun e => .str (entD e), rfl, by omega, trivial, rfl, fun e he => ?_, ?_⟩
    · refine egc_name (by simp) (et_yes ⟨rfl, rfl, fun _ => ?_⟩)
      show Ev _ _ _ _ _ _
      refine ev_ent ?_
      walk_at "a"
      exact ⟨e, rfl, h2 e he, rfl, rfl⟩
    rw [List.filter_eq_self.mpr fun _ _ => rfl]
    have hs := ents_sum h2
    have e3 : (" " : Str).length = 1 := rfl
    refine ⟨es.map entD, .inl (by rw [List.map_map]; rfl), by rw [List.length_map, e3]; omega, rfl, rfl⟩
  rw [List.filter_eq_self.mpr fun _ _ => rfl]
  have hs := deeds_sum hd
  have e3 : ("\n" : Str).length = 1 := rfl
  refine ⟨ds.map deedT, .inl (by rw [List.map_map]; rfl), by rw [List.length_map, e3]; omega, ?_⟩
  exact Rt.cut 1 hk (Nat.le_refl 1) rfl rfl
theorem ok_NoDeed_init (T : Tx K mg) : FnOk P w K mg base CX0 1 T.NoDeed_init.a T.NoDeed_init.fd ["self", "index"] (spOInit T.c_NoDeed "index") := by
  refine T.NoDeed_init.F.ok sc_NoDeed_init (fun vs H Q E h => by obtain ⟨a, v, rfl, _⟩ := h; rfl) (fun cdv A outer s H vs Q E hr h => ?_)
  obtain ⟨a, v, rfl, hx, q⟩ := h
  refine ⟨_, (pss_one (ps_ost (pv 0) (pv 1))), ?_⟩
  exact ⟨_, rfl, _, rfl, a, _, rfl, T.ox_NoDeed, T.nf_NoDeed, .inl ⟨hx, fun dx n ne => q dx n ne⟩⟩
theorem okx_deeds_text (T : Tx K mg) (C : Addr) : FnOk P w K mg base (L2.CX P w) 5 T.deeds_text.a T.deeds_text.fd ["deeds"] (spAX K C (ApDTX T.c_NoDeed)) := by
  have G_is_deed := oa_is_deed (P := P) (w := w) (base := base) T C
  have G_entry_text := ok_entry (P := P) (w := w) (base := base) T C
  have G_NoDeed_init := ok_NoDeed_init (P := P) (w := w) (base := base) T
  refine T.deeds_text.F.okX sc_deeds_text (fun vs H Q E h => spAX_len (l := 1) (fun xs cs k kx ⟨_, _, h, _⟩ => by rw [h]; rfl) h) (fun cdv A outer s H vs Q E hr h => ?_)
  obtain ⟨F, as, cs, xs, k, kx, wd, ar, ⟨y, r, rfl, ht, hk, hkx⟩, q, qx⟩ := h
  refine ⟨_, (pss_cons (ps_if (pt_not (pt_val (pe_callB (call_isDK K) (by rfl) T.b_isinstance (by decide +kernel) (pa_cons (pv 0) (pa_cons (pe_bltn (v := .ty "list") (by rfl) T.b_list (by decide +kernel) rfl) pa_nil)))))
  (pss_one (ps_raiseO rfl T.ox_NoDeed T.NoDeed_init.m.at_ T.tt_NoDeed G_NoDeed_init (hr.mono (by first | decide | omega)) T.NoDeed_init.b pass0 (takes_of rfl rfl rfl rfl) rfl T.g_NoDeed (pa_cons pe_int pa_nil)))
  pss_nil)
  (pss_cons (ps_for (passes_of rfl) rfl (pi_enum (by rfl) T.b_enumerate (pa_cons (pv 0) pa_nil)) (pg_tupK K rfl (pgs_cons (pg_name (i := 1) sc_deeds_text.nd rfl (Or.inl rfl)) (pgs_cons (pg_name (i := 2) sc_deeds_text.nd rfl (Or.inl rfl)) pgs_nil)))
  (pss_one (ps_if (pt_not (pt_val (pe_call G_is_deed (hr.mono (by first | decide | omega)) rfl T.is_deed.g T.is_deed.F.kp T.is_deed.b .nil pass0 (pa_cons (pv 2) pa_nil))))
  (pss_one (ps_raiseO rfl T.ox_NoDeed T.NoDeed_init.m.at_ T.tt_NoDeed G_NoDeed_init (hr.mono (by first | decide | omega)) T.NoDeed_init.b pass0 (takes_of rfl rfl rfl rfl) rfl T.g_NoDeed (pa_cons (pv 1) pa_nil)))
  pss_nil)))
  (pss_one (ps_ret (pe_joinK K pe_str (pe_lc (own := [("deed", 2)]) (g := (gName 2)) (tt := tYes) rfl sc_deeds_text.nd (pi_listK K (pv 0)) (blkOk_by (N := ["deeds", "index", "deed", "entry"]) (sc := defScope s_deeds_text) (by decide +kernel)) (fun _ _ _ _ _ => pg_name (i := 2) sc_deeds_text.nd rfl (Or.inl rfl)) (fun _ _ _ _ _ => pts_nil) (fun _ _ _ _ _ => (pe_joinK K pe_str (pe_lc (own := [("entry", 3)]) (g := (gName 3)) (tt := tYes) rfl sc_deeds_text.nd (pi_tupK K (pv 2)) (blkOk_by (N := ["deeds", "index", "deed", "entry"]) (sc := lcIn s_deeds_text) (by decide +kernel)) (fun _ _ _ _ _ => pg_name (i := 3) sc_deeds_text.nd rfl (Or.inl rfl)) (fun _ _ _ _ _ => pts_nil) (fun _ _ _ _ _ => (pe_call G_entry_text (hr.mono (by first | decide | omega)) rfl T.entry_text.g T.entry_text.F.kp T.entry_text.b .nil pass0 (pa_cons (pv 3) pa_nil)))))))))))), ?_⟩
  cases ht with
  | @no y t h1 h2 h3 =>
    refine body_goX [some y, none, none, none] (n := 0) rfl rfl wd ar ?_ q qx
    walk_at "a"
    refine on_isD h1 (by decide) ?_
    have ht : isTy t "list" = false := by unfold isTy; simp [h2]
    rw [ht]
    walk_at "a"
    refine ex_raiseO (D := { nx := _, rt := _, W := fun cls d _ H => E cls d H, ex := _ }) ?_
    walk_at "a"
    exact ⟨_, rfl, hkx 0 rfl⟩
  | @bad ys bs i h1 h2 h3 h4 =>
    refine body_goX [some (.cel 0), none, none, none] (n := 1) rfl rfl wd ar ?_ q qx
    have hyb : ys.length = bs.length := by have := congrArg List.length h1; simpa using this
    walk_at "a"
    refine ex_for 1 (Nat.le_refl _) (ei_enumCA 0 (by decide) ?_)
    walk_at "a"
    refine ⟨rfl, ys, rfl, Nat.le_refl _, fun j E' cs' => ∃ x2 x3, E' = [some (.cel 0), x2, x3, none] ∧ cs' = [.a ys] ∧ ∀ t, t < j → bs[t]? = some true, ⟨none, none, rfl, rfl, fun t ht => absurd ht (Nat.not_lt_zero t)⟩, fun i E' cs' ⟨_, _, _, hc, _⟩ => by rw [hc]; rfl, ?_, ?_⟩
    · rintro j z E' cs' hz ⟨x2, x3, rfl, rfl, hb⟩
      rw [List.getElem?_mapIdx] at hz
      obtain ⟨z1, hz1, rfl⟩ := Option.map_eq_some_iff.mp hz
      have hj := (List.getElem?_eq_some_iff.mp hz1).1
      obtain ⟨b, hb1⟩ : ∃ b, bs[j]? = some b := ⟨_, List.getElem?_eq_getElem (by omega)⟩
      have hst : deedA z1 = some b := by
        have := congrArg (fun l => l[j]?) h1
        simp only [List.getElem?_map, hz1, hb1, Option.map_some] at this
        exact Option.some.inj this
      have hlt : AV.lt 0 z1 = true := by
        have key : ∀ l : List AV, AV.ltAll 0 l = true → ∀ x ∈ l, AV.lt 0 x = true := fun l => by
          induction l with
          | nil => exact fun _ x hx => absurd hx List.not_mem_nil
          | cons a l ih =>
            intro h x hx
            have h : (AV.lt 0 a && AV.ltAll 0 l) = true := h
            rw [Bool.and_eq_true] at h
            rcases List.mem_cons.mp hx with rfl | hx
            · exact h.1
            · exact ih h.2 x hx
        exact key ys h3 z1 (List.mem_of_getElem? hz1)
      refine eg_tup rfl (egs_cons (egs_cons (egs_nil ?_)))
      walk_at "a"
      refine ev_isDeedA ?_
      walk_at "a"
      refine ⟨_, b, rfl, hlt, hst, ?_⟩
      cases b with
      | false =>
        walk_at "a"
        refine ex_raiseO (D := { nx := _, rt := _, W := fun cls d _ H => E cls d H, ex := _, bk := _, ct := _ }) ?_
        walk_at "a"
        have := firstF_at (j := 0) hb hb1
        rw [h4] at this
        have hij : i = j := by have := Option.some.inj this; omega
        exact ⟨_, rfl, by rw [← hij]; exact hkx i rfl⟩
      | true =>
        walk_at "a"
        refine Cm.here ⟨_, _, rfl, rfl, fun t ht => ?_⟩
        rcases Nat.lt_succ_iff_lt_or_eq.mp ht with ht | rfl
        · exact hb t ht
        · exact hb1
    · rintro E' cs' ⟨x2, x3, rfl, rfl, hb⟩
      rw [List.length_mapIdx, hyb] at hb
      rw [firstF_none hb] at h4
      cases h4
  | @ok ds hd hl =>
    refine body_goX [some (.cel 0), none, none, none] (n := 1) rfl rfl wd ar ?_ q qx
    walk_at "a"
    refine ex_for 1 (Nat.le_refl _) (ei_enumC 0 (by decide) ?_)
    walk_at "a"
    refine ⟨rfl, ds, rfl, Nat.le_refl _, fun j E' cs' => (∃ x2 x3, E' = [some (.cel 0), x2, x3, none]) ∧ cs' = [.l ds], ⟨⟨none, none, rfl⟩, rfl⟩, fun i E' cs' ⟨_, hc⟩ => by rw [hc]; rfl, ?_, ?_⟩
    · rintro j z E' cs' hz ⟨⟨x2, x3, rfl⟩, rfl⟩
      rw [List.getElem?_mapIdx] at hz
      obtain ⟨d, hdj, rfl⟩ := Option.map_eq_some_iff.mp hz
      refine eg_tupD rfl (egs_cons (egs_cons (egs_nil ?_)))
      walk_at "a"
      refine ev_isDeedA ?_
      walk_at "a"
      refine ⟨_, true, rfl, rfl, (hd d (List.mem_of_getElem? hdj)).deedA, ?_⟩
      walk_at "a"
      exact Cm.here ⟨⟨_, _, rfl⟩, rfl⟩
    rintro E' cs' ⟨⟨x2, x3, rfl⟩, rfl⟩
    walk_at "a"
    refine ev_join ?_
    walk_at "a"
    refine ⟨_, rfl, ?_⟩
    refine ev_lcL 1 (ei_listC 0 (by decide) ?_)
    walk_at "a"
    refine ⟨rfl, ds, rfl, rfl, ds, fun _ => true, fun d => .str (deedT d), rfl, by omega, rfl, rfl, fun d hdm => ?_, ?_⟩
    · obtain ⟨es, rfl, h1, h2⟩ := (hd d hdm).en
      refine egc_name (by simp) (et_yes ⟨rfl, rfl, fun _ => ?_⟩)
      show Ev _ _ _ _ _ _
      refine ev_join ?_
      walk_at "a"
      refine ⟨_, rfl, ?_⟩
      refine ev_lcL 1 (ei_tupD ?_)
      walk_at "a"
      refine ⟨rfl, es, fun _ => true, fun e => .str (entD e), rfl, by omega, trivial, rfl, fun e he => ?_, ?_⟩
      · refine egc_name (by simp) (et_yes ⟨rfl, rfl, fun _ => ?_⟩)
        show Ev _ _ _ _ _ _
        refine ev_ent ?_
        walk_at "a"
        exact ⟨e, rfl, h2 e he, rfl, rfl⟩
      rw [List.filter_eq_self.mpr fun _ _ => rfl]
      have hs := ents_sum h2
      have e3 : (" " : Str).length = 1 := rfl
      refine ⟨es.map entD, .inl (by rw [List.map_map]; rfl), by rw [List.length_map, e3]; omega, rfl, rfl⟩
    rw [List.filter_eq_self.mpr fun _ _ => rfl]
    have hs := deeds_sum hd
    have e3 : ("\n" : Str).length = 1 := rfl
    refine ⟨ds.map deedT, .inl (by rw [List.map_map]; rfl), by rw [List.length_map, e3]; omega, ?_⟩
    exact Rt.cut 1 (hk _ rfl) (Nat.le_refl 1) rfl rfl
end
end Y

set_option pp.deepTerms false
set_option pp.deepTerms.threshold 8
/-! # draws of deeds; what is refused -/
namespace Y
open PySem L2
local macro_rules | `(tactic| walk_at "a") => `(tactic| repeat (first
  | (with_reducible apply ev_int) | (with_reducible apply ev_str) | (with_reducible apply ev_bl) | (with_reducible apply ev_non) | (with_reducible apply ev_ty)
  | ((with_reducible apply ev_var); · rfl)
  | (with_reducible apply ev_op) | (with_reducible apply ev_un) | (with_reducible apply evs_nil) | (with_reducible apply evs_cons) | (with_reducible apply ev_cb) | (with_reducible apply ev_if)
  | (with_reducible apply et_test) | (with_reducible apply et_B) | (with_reducible apply et_and) | (with_reducible apply et_or) | (with_reducible apply et_not)
  | (with_reducible apply ex_seq) | (with_reducible apply ex_name) | (with_reducible apply ex_to) | (with_reducible apply ex_ret) | (with_reducible apply ex_if) | (with_reducible apply ex_drop) | (with_reducible apply ex_retN) | (with_reducible apply ex_next)
  | (with_reducible apply ex_par) | (with_reducible apply ex_par3) | (with_reducible apply eg_sub) | (with_reducible apply eg_name)
  | (with_reducible apply o_int) | (with_reducible apply o_bl) | (with_reducible apply o1_neg)
  | (with_reducible apply ev_andV) | (with_reducible apply ev_orV) | (with_reducible apply ev_notV)
  | (with_reducible apply ev_sl) | (with_reducible apply eo_part) | (with_reducible apply eo_no) | (with_reducible apply ev_bm) | (with_reducible apply ev_bm0)
  | (with_reducible apply ite_f) | (with_reducible apply ite_t) | (with_reducible apply ev_tupD) | (with_reducible apply ev_chain)
  | ((with_reducible apply o_ixL); (· rfl); (· rfl)) | ((with_reducible apply o_ixT); (· rfl); (· rfl))
  | ((with_reducible apply o_eq); (· rfl); (· rfl); (· rfl)) | ((with_reducible apply o_ne); (· rfl); (· rfl); (· rfl))
  | (with_reducible apply o_isN) | (with_reducible apply o_notN)
  | (with_reducible apply on_int) | (with_reducible apply on_intB) | (with_reducible apply on_max) | (with_reducible apply on_min) | (with_reducible apply on_abs)
  | ((with_reducible apply on_lenL); (· rfl)) | ((with_reducible apply on_lenT); (· rfl)) | ((with_reducible apply on_isD); (· rfl); (· decide))
  | ((with_reducible apply isSub); (· rfl); (· rfl)) | (with_reducible apply isB) | (with_reducible apply isI) | (with_reducible apply is2) | (with_reducible apply is3) | (with_reducible apply isI1) | (with_reducible apply isI2) | (with_reducible apply isT) | (with_reducible apply isL) | (with_reducible apply isScr) | ((with_reducible apply isDs); (· rfl); (· rfl))
  | ((with_reducible apply o_inT); (· rfl); (· rfl); (· decide +kernel); (· decide +kernel)) | ((with_reducible apply o_eqD); (· rfl); (· rfl); (· decide +kernel); (· decide +kernel))
  | ((with_reducible apply iteT'); · first | decide +kernel | rfl) | ((with_reducible apply iteF'); · first | decide +kernel | rfl)))
def ApNum (P : PyData → Bool) : ASp := fun xs cs k => ∃ (ws : List PyData) (B : Int), xs = [.cel 0] ∧ cs = [.l ws] ∧ PotD ws B ∧ B < 2 ^ 50 ∧ ∀ (r : Int) ws', P (.int r) = true → PotD ws' (B + 5) → k (.d (.int r)) [.l ws']
theorem ev_num {Pn : PyData → Bool} {K : PySem.W.Frag} {C : Addr} {E : AEnv} {cs : List Cell} {tas : TA} {k : AV → List Cell → Prop} {X : XK} (h : Evs K C E cs tas fun xs cs1 => ∃ (i : Nat) (ws : List PyData) (B : Int), xs = [.cel i] ∧ cs1[i]? = some (.l ws) ∧ PotD ws B ∧ B < 2 ^ 50 ∧
      ∀ (r : Int) ws', Pn (.int r) = true → PotD ws' (B + 5) → k (.d (.int r)) (cs1.set i (.l ws'))) : Ev K C E cs (tCall (spA K C (ApNum Pn)) [] X tas) k := ev_call1 fun F as H σ Q w e z => h F as H σ Q w e fun xs cs1 v F' as' H' ⟨i, ws, B, hx, hc, hp, hB, hk⟩ => z xs cs1 v F' as' H' ⟨i, ws, [], hx, hc, ws, B, rfl, rfl, hp, hB, fun r ws' r0 hp' => by
      have := hk r ws' r0 hp'
      show k (.d (.int r)) (putC cs1 [i] [.l ws'])
      simp only [putC, List.append_nil]
      exact this⟩
theorem isLab {l : Int} (h0 : 0 ≤ l) (h1 : l ≤ 999999999999999999999999999999) : isLabelD (.int l) = true := decide_eq_true ⟨h0, h1⟩
theorem isAmt {l : Int} (h0 : -1000000000000 ≤ l) (h1 : l ≤ 1000000000000) : isAmountD (.int l) = true := decide_eq_true ⟨h0, h1⟩
theorem isNum {l : Int} (h0 : 1 ≤ l) (h1 : l ≤ 1000000000) : isNumberD (.int l) = true := decide_eq_true ⟨h0, h1⟩
theorem lab_ent {l : Int} (h : isLabelD (.int l) = true) : okEnt (.int l) = true := by
  have h := of_decide_eq_true (show decide (0 ≤ l ∧ l ≤ 999999999999999999999999999999) = true from h)
  exact decide_eq_true (by omega)
theorem amt_ent {l : Int} (h : isAmountD (.int l) = true) : okEnt (.int l) = true := by
  have h := of_decide_eq_true (show decide (-1000000000000 ≤ l ∧ l ≤ 1000000000000) = true from h)
  exact decide_eq_true (by omega)
theorem num_ent {l : Int} (h : isNumberD (.int l) = true) : okEnt (.int l) = true := by
  have h := of_decide_eq_true (show decide (1 ≤ l ∧ l ≤ 1000000000) = true from h)
  exact decide_eq_true (by omega)
/-! ### deeds are deeds -/
theorem gd_add {l a : Int} (h1 : isLabelD (.int l) = true) (h2 : isAmountD (.int a) = true) : GoodD (.tuple [.str "add", .int l, .int a]) := ⟨by
  show isRestD "add" [.int l, .int a] = true
  unfold isRestD
  rw [if_neg (by decide), if_neg (by decide), if_neg (by simp), if_pos rfl]
  show (isLabelD (.int l) && isAmountD (.int a)) = true
  rw [h1, h2]; rfl, _, rfl, Nat.le_of_ble_eq_true rfl, fun e he => by
  simp only [List.mem_cons, List.not_mem_nil, or_false] at he
  rcases he with rfl | rfl | rfl
  · decide +kernel
  · exact lab_ent h1
  · exact amt_ent h2⟩
theorem gd_label {n l : Int} (h0 : isNumberD (.int n) = true) (h1 : isLabelD (.int l) = true) : GoodD (.tuple [.str "label", .int n, .int l]) := ⟨by
  show isRestD "label" [.int n, .int l] = true
  unfold isRestD
  rw [if_neg (by decide), if_neg (by decide), if_neg (by simp), if_neg (by decide), if_neg (by show ¬ isNumberD (.int n) = false; rw [h0]; decide), if_pos (by decide)]
  exact h1, _, rfl, Nat.le_of_ble_eq_true rfl, fun e he => by
  simp only [List.mem_cons, List.not_mem_nil, or_false] at he
  rcases he with rfl | rfl | rfl
  · decide +kernel
  · exact num_ent h0
  · exact lab_ent h1⟩
theorem gd_moves {n l : Int} (h0 : isNumberD (.int n) = true) (h1 : isAmountD (.int l) = true) : GoodD (.tuple [.str "moves", .int n, .int l]) := ⟨by
  show isRestD "moves" [.int n, .int l] = true
  unfold isRestD
  rw [if_neg (by decide), if_neg (by decide), if_neg (by simp), if_neg (by decide), if_neg (by show ¬ isNumberD (.int n) = false; rw [h0]; decide), if_neg (by decide), if_pos (by decide)]
  exact h1, _, rfl, Nat.le_of_ble_eq_true rfl, fun e he => by
  simp only [List.mem_cons, List.not_mem_nil, or_false] at he
  rcases he with rfl | rfl | rfl
  · decide +kernel
  · exact num_ent h0
  · exact amt_ent h1⟩
/-- None or a number -/
def isOther (d : PyData) : Prop := d = .none ∨ ∃ k, d = .int k ∧ isNumberD (.int k) = true
theorem other_ent {d : PyData} (h : isOther d) : okEnt d = true := by
  rcases h with rfl | ⟨k, rfl, h⟩
  · rfl
  · exact num_ent h
theorem other_ok {d : PyData} (h : isOther d) : (isNoneD d || isNumberD d) = true := by
  rcases h with rfl | ⟨k, rfl, h⟩
  · rfl
  · rw [h, Bool.or_true]
theorem gd_tie {n : Int} {d : PyData} (h0 : isNumberD (.int n) = true) (h1 : isOther d) : GoodD (.tuple [.str "tie", .int n, d]) := ⟨by
  show isRestD "tie" [.int n, d] = true
  unfold isRestD
  rw [if_neg (by decide), if_neg (by decide), if_neg (by simp), if_neg (by decide), if_neg (by show ¬ isNumberD (.int n) = false; rw [h0]; decide), if_neg (by decide), if_neg (by decide), if_pos (by decide)]
  exact other_ok h1, _, rfl, Nat.le_of_ble_eq_true rfl, fun e he => by
  simp only [List.mem_cons, List.not_mem_nil, or_false] at he
  rcases he with rfl | rfl | rfl
  · decide +kernel
  · exact num_ent h0
  · exact other_ent h1⟩
theorem gd_fin {n : Int} (h0 : isNumberD (.int n) = true) : GoodD (.tuple [.str "end", .int n]) := ⟨by
  show isRestD "end" [.int n] = true
  unfold isRestD
  rw [if_neg (by decide), if_pos (by decide), if_pos rfl]
  show (decide (([PyData.int n] : List PyData).length = 1) && isNumberD (.int n)) = true
  rw [h0]; rfl, _, rfl, Nat.le_of_ble_eq_true rfl, fun e he => by
  simp only [List.mem_cons, List.not_mem_nil, or_false] at he
  rcases he with rfl | rfl
  · decide +kernel
  · exact num_ent h0⟩
theorem gd_own {l : Int} (h1 : isLabelD (.int l) = true) : GoodD (.tuple [.str "own", .int l]) := ⟨by
  show isRestD "own" [.int l] = true
  unfold isRestD
  rw [if_neg (by decide), if_pos (by decide), if_neg (by decide)]
  show (decide (([PyData.int l] : List PyData).length = 1) && isLabelD (.int l)) = true
  rw [h1]; rfl, _, rfl, Nat.le_of_ble_eq_true rfl, fun e he => by
  simp only [List.mem_cons, List.not_mem_nil, or_false] at he
  rcases he with rfl | rfl
  · decide +kernel
  · exact lab_ent h1⟩
theorem gd_run : GoodD (.tuple [.str "run"]) := ⟨by decide, _, rfl, Nat.le_of_ble_eq_true rfl, fun e he => by
  rw [List.mem_singleton.mp he]; decide +kernel⟩
theorem gd_wlabel {n l : Int} (h0 : isNumberD (.int n) = true) (h1 : isLabelD (.int l) = true) : GoodD (.tuple [.str "write label", .int n, .int l]) := ⟨by
  show isRestD "write label" [.int n, .int l] = true
  unfold isRestD
  rw [if_neg (by decide), if_neg (by decide), if_neg (by simp), if_neg (by decide), if_neg (by show ¬ isNumberD (.int n) = false; rw [h0]; decide), if_pos (by decide)]
  exact h1, _, rfl, Nat.le_of_ble_eq_true rfl, fun e he => by
  simp only [List.mem_cons, List.not_mem_nil, or_false] at he
  rcases he with rfl | rfl | rfl
  · decide +kernel
  · exact num_ent h0
  · exact lab_ent h1⟩
theorem gd_wmoves {n l : Int} (h0 : isNumberD (.int n) = true) (h1 : isAmountD (.int l) = true) : GoodD (.tuple [.str "write moves", .int n, .int l]) := ⟨by
  show isRestD "write moves" [.int n, .int l] = true
  unfold isRestD
  rw [if_neg (by decide), if_neg (by decide), if_neg (by simp), if_neg (by decide), if_neg (by show ¬ isNumberD (.int n) = false; rw [h0]; decide), if_neg (by decide), if_pos (by decide)]
  exact h1, _, rfl, Nat.le_of_ble_eq_true rfl, fun e he => by
  simp only [List.mem_cons, List.not_mem_nil, or_false] at he
  rcases he with rfl | rfl | rfl
  · decide +kernel
  · exact num_ent h0
  · exact amt_ent h1⟩
theorem gd_wtie {n : Int} {d : PyData} (h0 : isNumberD (.int n) = true) (h1 : isOther d) : GoodD (.tuple [.str "write tie", .int n, d]) := ⟨by
  show isRestD "write tie" [.int n, d] = true
  unfold isRestD
  rw [if_neg (by decide), if_neg (by decide), if_neg (by simp), if_neg (by decide), if_neg (by show ¬ isNumberD (.int n) = false; rw [h0]; decide), if_neg (by decide), if_neg (by decide), if_pos (by decide)]
  exact other_ok h1, _, rfl, Nat.le_of_ble_eq_true rfl, fun e he => by
  simp only [List.mem_cons, List.not_mem_nil, or_false] at he
  rcases he with rfl | rfl | rfl
  · decide +kernel
  · exact num_ent h0
  · exact other_ent h1⟩
def ApDeed : ASp := fun xs cs k => ∃ (ws : List PyData) (B : Int), xs = [.cel 0] ∧ cs = [.l ws] ∧ PotD ws B ∧ B < 2 ^ 45 ∧ ∀ (d : PyData) ws', GoodD d → PotD ws' (B + 50) → k (.d d) [.l ws']
def ApDeeds : ASp := fun xs cs k => ∃ (ws : List PyData) (most B : Int), xs = [.cel 0, .d (.int most)] ∧ cs = [.l ws] ∧ PotD ws B ∧ B < 2 ^ 40 ∧ 1 ≤ most ∧ most ≤ 200 ∧ ∀ (ds : List PyData) ws', (∀ d ∈ ds, GoodD d) → (ds.length : Int) ≤ most → PotD ws' (B + 20000) → k (.cel 1) [.l ws', .l ds]
section
variable {K : PySem.W.Frag} {C : Addr} {E : AEnv} {cs : List Cell} {tas : TA} {k : AV → List Cell → Prop} {X : XK}
theorem ev_deed (h : Evs K C E cs tas fun xs cs1 => ∃ (i : Nat) (ws : List PyData) (B : Int), xs = [.cel i] ∧ cs1[i]? = some (.l ws) ∧ PotD ws B ∧ B < 2 ^ 45 ∧ ∀ (d : PyData) ws', GoodD d → PotD ws' (B + 50) → k (.d d) (cs1.set i (.l ws'))) : Ev K C E cs (tCall (spA K C ApDeed) [] X tas) k :=
  ev_call1 fun F as H σ Q w e z => h F as H σ Q w e fun xs cs1 v F' as' H' ⟨i, ws, B, hx, hc, hp, hB, hk⟩ => z xs cs1 v F' as' H' ⟨i, ws, [], hx, hc, ws, B, rfl, rfl, hp, hB, fun r ws' r0 hp' => by
      have := hk r ws' r0 hp'
      show k (.d r) (putC cs1 [i] [.l ws'])
      simp only [putC, List.append_nil]
      exact this⟩
theorem ev_deeds (h : Evs K C E cs tas fun xs cs1 => ∃ (i : Nat) (ws : List PyData) (most B : Int), xs = [.cel i, .d (.int most)] ∧ cs1[i]? = some (.l ws) ∧ PotD ws B ∧ B < 2 ^ 40 ∧ 1 ≤ most ∧ most ≤ 200 ∧ ∀ (ds : List PyData) ws', (∀ d ∈ ds, GoodD d) → (ds.length : Int) ≤ most → PotD ws' (B + 20000) → k (.cel cs1.length) (cs1.set i (.l ws') ++ [.l ds])) : Ev K C E cs (tCall (spA K C ApDeeds) [] X tas) k :=
  ev_call1 fun F as H σ Q w e z => h F as H σ Q w e fun xs cs1 v F' as' H' ⟨i, ws, most, B, hx, hc, hp, hB, hm0, hm1, hk⟩ => z xs cs1 v F' as' H' ⟨i, ws, [.int most], hx, hc, ws, most, B, rfl, rfl, hp, hB, hm0, hm1, fun ds ws' r0 r1 hp' => by
      have := hk ds ws' r0 r1 hp'
      show k (.cel _) (putC cs1 [i] [.l ws', .l ds])
      simp only [putC]
      exact this⟩
end
section
variable {P : Program} {w : World} {K : PySem.W.Frag} {mg : Str → Option Value} {base : Heap}
theorem ok_label (T : Tx K mg) (C : Addr) : FnOk P w K mg base CX0 2 T.label.a T.label.fd ["well"] (spA K C (ApNum isLabelD)) := by
  have G_draw := ok_draw (P := P) (w := w) (base := base) T C
  refine T.label.F.ok sc_label (fun vs H Q E h => spA_len (l := 1) (fun xs cs k ⟨_, _, h, _⟩ => by rw [h]; rfl) h) (fun cdv A outer s H vs Q E hr h => ?_)
  obtain ⟨F, as, cs, xs, k, wd, ar, ⟨ws, B, rfl, rfl, hp, hB, hk⟩, q⟩ := h
  refine ⟨_, (pss_cons (ps_set (i := 1) sc_label.nd rfl (Or.inl rfl) (pe_call G_draw (hr.mono (by first | decide | omega)) rfl T.draw.g T.draw.F.kp T.draw.b .nil pass0 (pa_cons (pv 0) (pa_cons pe_int pa_nil))))
  (pss_cons (ps_if (pt_cmpR op_lt (pv 1) pe_int (nomark _))
  (pss_one (ps_ret (pe_ix (ix_listK K) (pe_lst (pa_cons pe_int (pa_cons (pe_op op_sub (pe_op op_powW pe_int pe_int) pe_int) pa_nil))) (pv 1) (fun _ _ => rfl))))
  pss_nil)
  (pss_one (ps_ret (pe_call G_draw (hr.mono (by first | decide | omega)) rfl T.draw.g T.draw.F.kp T.draw.b .nil pass0 (pa_cons (pv 0) (pa_cons (pe_ix (ix_listK K) (pe_lst (pa_cons (pe_op op_powW pe_int pe_int) (pa_cons pe_int pa_nil))) (pe_op op_sub (pv 1) pe_int) (fun _ _ => rfl)) pa_nil))))))), ?_⟩
  refine body_go [some (.cel 0), none] (n := 1) rfl rfl wd ar ?_ q
  have e30 : (10 : Int) ^ Int.toNat 30 = 1000000000000000000000000000000 := by decide
  have c30 : CPowW 10 30 := ⟨by decide, by decide⟩
  walk_at "a"
  refine ev_draw ?_
  walk_at "a"
  refine ⟨0, _, ws, B, rfl, rfl, hp, by omega, by decide, by decide, fun r1 ws1 a1 b1 p1 => ?_⟩
  walk_at "a"
  refine iteB (fun c => ?_) (fun c => ?_)
  · have c := of_decide_eq_true c
    walk_at "a"
    refine ev_lstF ?_
    walk_at "a"
    refine o_intC c30 ?_
    rw [e30]
    walk_at "a"
    obtain rfl | rfl : r1 = 0 ∨ r1 = 1 := by omega
    · exact o_ixL (ds := _) rfl rfl (Rt.here (hk _ ws1 (isLab (by decide) (by decide)) (p1.mono (by omega))) (Nat.le_refl _) rfl rfl)
    · exact o_ixL (ds := _) rfl rfl (Rt.here (hk _ ws1 (isLab (by decide) (by decide)) (p1.mono (by omega))) (Nat.le_refl _) rfl rfl)
  · have c := of_decide_eq_false c
    walk_at "a"
    refine ev_draw ?_
    walk_at "a"
    refine ev_lstF ?_
    walk_at "a"
    refine o_intC c30 ?_
    rw [e30]
    walk_at "a"
    obtain ⟨m, hm, hm0, hm1⟩ : ∃ m : Int, atI [PyData.int 1000000000000000000000000000000, .int 100] (r1 - 2) = some (.int m) ∧ 0 < m ∧ m ≤ 1000000000000000000000000000000 := by
      obtain rfl | rfl : r1 = 2 ∨ r1 = 3 := by omega
      · exact ⟨_, rfl, by decide, by decide⟩
      · exact ⟨_, rfl, by decide, by decide⟩
    refine o_ixL (by rfl) hm ?_
    walk_at "a"
    refine ⟨0, _, ws1, _, rfl, rfl, p1, by omega, hm0, by omega, fun r2 ws2 a2 b2 p2 => ?_⟩
    exact Rt.here (hk _ ws2 (isLab a2 (by omega)) (p2.mono (by omega))) (Nat.le_refl _) rfl rfl
theorem ok_amount (T : Tx K mg) (C : Addr) : FnOk P w K mg base CX0 2 T.amount.a T.amount.fd ["well"] (spA K C (ApNum isAmountD)) := by
  have G_draw := ok_draw (P := P) (w := w) (base := base) T C
  refine T.amount.F.ok sc_amount (fun vs H Q E h => spA_len (l := 1) (fun xs cs k ⟨_, _, h, _⟩ => by rw [h]; rfl) h) (fun cdv A outer s H vs Q E hr h => ?_)
  obtain ⟨F, as, cs, xs, k, wd, ar, ⟨ws, B, rfl, rfl, hp, hB, hk⟩, q⟩ := h
  refine ⟨_, (pss_cons (ps_set (i := 1) sc_amount.nd rfl (Or.inl rfl) (pe_call G_draw (hr.mono (by first | decide | omega)) rfl T.draw.g T.draw.F.kp T.draw.b .nil pass0 (pa_cons (pv 0) (pa_cons pe_int pa_nil))))
  (pss_cons (ps_if (pt_cmpR op_lt (pv 1) pe_int (nomark _))
  (pss_one (ps_ret (pe_ix (ix_listK K) (pe_lst (pa_cons pe_int (pa_cons (pe_op op_powW pe_int pe_int) (pa_cons (pe_un un_neg (pe_op op_powW pe_int pe_int)) pa_nil)))) (pv 1) (fun _ _ => rfl))))
  pss_nil)
  (pss_one (ps_ret (pe_op op_sub (pe_call G_draw (hr.mono (by first | decide | omega)) rfl T.draw.g T.draw.F.kp T.draw.b .nil pass0 (pa_cons (pv 0) (pa_cons (pe_ix (ix_listK K) (pe_lst (pa_cons (pe_op op_add (pe_op op_mul pe_int (pe_op op_powW pe_int pe_int)) pe_int) (pa_cons pe_int pa_nil))) (pe_op op_sub (pv 1) pe_int) (fun _ _ => rfl)) pa_nil))) (pe_ix (ix_listK K) (pe_lst (pa_cons (pe_op op_powW pe_int pe_int) (pa_cons pe_int pa_nil))) (pe_op op_sub (pv 1) pe_int) (fun _ _ => rfl))))))), ?_⟩
  refine body_go [some (.cel 0), none] (n := 1) rfl rfl wd ar ?_ q
  have e12 : (10 : Int) ^ Int.toNat 12 = 1000000000000 := by decide
  have c12 : CPowW 10 12 := ⟨by decide, by decide⟩
  walk_at "a"
  refine ev_draw ?_
  walk_at "a"
  refine ⟨0, _, ws, B, rfl, rfl, hp, by omega, by decide, by decide, fun r1 ws1 a1 b1 p1 => ?_⟩
  walk_at "a"
  refine iteB (fun c => ?_) (fun c => ?_)
  · have c := of_decide_eq_true c
    walk_at "a"
    refine ev_lstF ?_
    walk_at "a"
    refine o_intC c12 ?_
    rw [e12]
    walk_at "a"
    refine o_intC c12 ?_
    rw [e12]
    walk_at "a"
    obtain rfl | rfl | rfl : r1 = 0 ∨ r1 = 1 ∨ r1 = 2 := by omega
    · exact o_ixL (ds := _) rfl rfl (Rt.here (hk _ ws1 (isAmt (by decide) (by decide)) (p1.mono (by omega))) (Nat.le_refl _) rfl rfl)
    · exact o_ixL (ds := _) rfl rfl (Rt.here (hk _ ws1 (isAmt (by decide) (by decide)) (p1.mono (by omega))) (Nat.le_refl _) rfl rfl)
    · exact o_ixL (ds := _) rfl rfl (Rt.here (hk _ ws1 (isAmt (by decide) (by decide)) (p1.mono (by omega))) (Nat.le_refl _) rfl rfl)
  · have c := of_decide_eq_false c
    walk_at "a"
    refine ev_draw ?_
    walk_at "a"
    refine ev_lstF ?_
    walk_at "a"
    refine o_intC c12 ?_
    rw [e12]
    walk_at "a"
    refine o_intC (.inl (by decide)) ?_
    walk_at "a"
    obtain ⟨m, s, hm, hs, hm0, hm1, hms⟩ : ∃ m s : Int, atI [PyData.int (2 * 1000000000000 + 1), .int 21] (r1 - 3) = some (.int m) ∧ atI [PyData.int 1000000000000, .int 10] (r1 - 3) = some (.int s) ∧ 0 < m ∧ m ≤ 2000000000001 ∧ (m = 2 * s + 1 ∧ s ≤ 1000000000000) := by
      obtain rfl | rfl : r1 = 3 ∨ r1 = 4 := by omega
      · exact ⟨_, _, rfl, rfl, by decide, by decide, by decide, by decide⟩
      · exact ⟨_, _, rfl, rfl, by decide, by decide, by decide, by decide⟩
    refine o_ixL (by rfl) hm ?_
    walk_at "a"
    refine ⟨0, _, ws1, _, rfl, rfl, p1, by omega, hm0, by omega, fun r2 ws2 a2 b2 p2 => ?_⟩
    walk_at "a"
    refine ev_lstF ?_
    walk_at "a"
    refine o_intC c12 ?_
    rw [e12]
    walk_at "a"
    refine o_ixL (by rfl) hs ?_
    walk_at "a"
    exact Rt.here (hk _ ws2 (isAmt (by omega) (by omega)) (p2.mono (by omega))) (Nat.le_refl _) rfl rfl
theorem ok_number (T : Tx K mg) (C : Addr) : FnOk P w K mg base CX0 2 T.number.a T.number.fd ["well"] (spA K C (ApNum isNumberD)) := by
  have G_draw := ok_draw (P := P) (w := w) (base := base) T C
  refine T.number.F.ok sc_number (fun vs H Q E h => spA_len (l := 1) (fun xs cs k ⟨_, _, h, _⟩ => by rw [h]; rfl) h) (fun cdv A outer s H vs Q E hr h => ?_)
  obtain ⟨F, as, cs, xs, k, wd, ar, ⟨ws, B, rfl, rfl, hp, hB, hk⟩, q⟩ := h
  refine ⟨_, (pss_one (ps_ret (pe_ix (ix_listK K) (pe_lst (pa_cons pe_int (pa_cons (pe_op op_powW pe_int pe_int) (pa_cons (pe_op op_add pe_int (pe_call G_draw (hr.mono (by first | decide | omega)) rfl T.draw.g T.draw.F.kp T.draw.b .nil pass0 (pa_cons (pv 0) (pa_cons (pe_op op_powW pe_int pe_int) pa_nil)))) (pa_cons (pe_op op_add pe_int (pe_call G_draw (hr.mono (by first | decide | omega)) rfl T.draw.g T.draw.F.kp T.draw.b .nil pass0 (pa_cons (pv 0) (pa_cons pe_int pa_nil)))) pa_nil))))) (pe_call G_draw (hr.mono (by first | decide | omega)) rfl T.draw.g T.draw.F.kp T.draw.b .nil pass0 (pa_cons (pv 0) (pa_cons pe_int pa_nil))) (fun _ _ => rfl)))), ?_⟩
  refine body_go [some (.cel 0)] (n := 1) rfl rfl wd ar ?_ q
  have e9 : (10 : Int) ^ Int.toNat 9 = 1000000000 := by decide
  have c9 : CPowW 10 9 := ⟨by decide, by decide⟩
  walk_at "a"
  refine ev_lstF ?_
  walk_at "a"
  refine o_intC c9 ?_
  rw [e9]
  walk_at "a"
  refine ev_draw ?_
  walk_at "a"
  refine o_intC c9 ?_
  rw [e9]
  walk_at "a"
  refine ⟨0, _, ws, B, rfl, rfl, hp, by omega, by decide, by decide, fun r1 ws1 a1 b1 p1 => ?_⟩
  walk_at "a"
  refine ev_draw ?_
  walk_at "a"
  refine ⟨0, _, ws1, _, rfl, rfl, p1, by omega, by decide, by decide, fun r2 ws2 a2 b2 p2 => ?_⟩
  walk_at "a"
  refine ev_draw ?_
  walk_at "a"
  refine ⟨0, _, ws2, _, rfl, rfl, p2, by omega, by decide, by decide, fun r3 ws3 a3 b3 p3 => ?_⟩
  have fin : ∀ x : Int, isNumberD (.int x) = true → Rt 1 k (.d (.int x)) [.l ws3] := fun x hx => Rt.here (hk x ws3 hx (p3.mono (by omega))) (Nat.le_refl _) rfl rfl
  obtain rfl | rfl | rfl | rfl : r3 = 0 ∨ r3 = 1 ∨ r3 = 2 ∨ r3 = 3 := by omega
  · exact o_ixL (ds := _) rfl rfl (fin _ (isNum (by decide) (by decide)))
  · exact o_ixL (ds := _) rfl rfl (fin _ (isNum (by decide) (by decide)))
  · exact o_ixL (ds := _) rfl rfl (fin _ (isNum (by omega) (by omega)))
  · exact o_ixL (ds := _) rfl rfl (fin _ (isNum (by omega) (by omega)))
theorem ok_deed (T : Tx K mg) (C : Addr) : FnOk P w K mg base CX0 3 T.deed.a T.deed.fd ["well"] (spA K C ApDeed) := by
  have G_draw := ok_draw (P := P) (w := w) (base := base) T C
  have G_label := ok_label (P := P) (w := w) (base := base) T C
  have G_amount := ok_amount (P := P) (w := w) (base := base) T C
  have G_number := ok_number (P := P) (w := w) (base := base) T C
  refine T.deed.F.ok sc_deed (fun vs H Q E h => spA_len (l := 1) (fun xs cs k ⟨_, _, h, _⟩ => by rw [h]; rfl) h) (fun cdv A outer s H vs Q E hr h => ?_)
  obtain ⟨F, as, cs, xs, k, wd, ar, ⟨ws, B, rfl, rfl, hp, hB, hk⟩, q⟩ := h
  refine ⟨_, (pss_cons (ps_set (i := 1) sc_deed.nd rfl (Or.inl rfl) (pe_call G_draw (hr.mono (by first | decide | omega)) rfl T.draw.g T.draw.F.kp T.draw.b .nil pass0 (pa_cons (pv 0) (pa_cons pe_int pa_nil))))
  (pss_cons (ps_par (i := 2) (j := 3) rfl sc_deed.nd rfl rfl (by decide) rfl rfl (pa_cons (pe_call G_number (hr.mono (by first | decide | omega)) rfl T.number.g T.number.F.kp T.number.b .nil pass0 (pa_cons (pv 0) pa_nil)) (pa_cons (pe_call G_label (hr.mono (by first | decide | omega)) rfl T.label.g T.label.F.kp T.label.b .nil pass0 (pa_cons (pv 0) pa_nil)) pa_nil)) rfl)
  (pss_cons (ps_par (i := 4) (j := 5) rfl sc_deed.nd rfl rfl (by decide) rfl rfl (pa_cons (pe_call G_amount (hr.mono (by first | decide | omega)) rfl T.amount.g T.amount.F.kp T.amount.b .nil pass0 (pa_cons (pv 0) pa_nil)) (pa_cons (pe_call G_number (hr.mono (by first | decide | omega)) rfl T.number.g T.number.F.kp T.number.b .nil pass0 (pa_cons (pv 0) pa_nil)) pa_nil)) rfl)
  (C8.pss_cut (ps_if (pt_cmpR op_eq (pe_call G_draw (hr.mono (by first | decide | omega)) rfl T.draw.g T.draw.F.kp T.draw.b .nil pass0 (pa_cons (pv 0) (pa_cons pe_int pa_nil))) pe_int (nomark _))
  (pss_one (ps_set (i := 5) sc_deed.nd rfl (Or.inl rfl) pe_non))
  pss_nil)
  (pss_cons (ps_set (i := 6) sc_deed.nd rfl (Or.inl rfl) (pe_lst (pa_cons (pe_tup (pa_cons pe_str (pa_cons (pv 3) (pa_cons (pv 4) pa_nil)))) (pa_cons (pe_tup (pa_cons pe_str (pa_cons (pv 2) (pa_cons (pv 3) pa_nil)))) (pa_cons (pe_tup (pa_cons pe_str (pa_cons (pv 2) (pa_cons (pv 4) pa_nil)))) pa_nil)))))
  (pss_cons (ps_set (i := 6) sc_deed.nd rfl (Or.inl rfl) (pe_op op_cat (pv 6) (pe_lst (pa_cons (pe_tup (pa_cons pe_str (pa_cons (pv 2) (pa_cons (pv 5) pa_nil)))) (pa_cons (pe_tup (pa_cons pe_str (pa_cons (pv 2) pa_nil))) (pa_cons (pe_tup (pa_cons pe_str (pa_cons (pv 3) pa_nil))) (pa_cons (pe_tup (pa_cons pe_str pa_nil)) (pa_cons (pe_tup (pa_cons pe_str pa_nil)) pa_nil))))))))
  (pss_cons (ps_set (i := 6) sc_deed.nd rfl (Or.inl rfl) (pe_op op_cat (pv 6) (pe_lst (pa_cons (pe_tup (pa_cons pe_str (pa_cons (pv 2) (pa_cons (pv 3) pa_nil)))) (pa_cons (pe_tup (pa_cons pe_str (pa_cons (pv 2) (pa_cons (pv 4) pa_nil)))) pa_nil)))))
  (pss_one (ps_ret (pe_ix (ix_listK K) (pe_op op_cat (pv 6) (pe_lst (pa_cons (pe_tup (pa_cons pe_str (pa_cons (pv 2) (pa_cons (pv 5) pa_nil)))) (pa_cons (pe_tup (pa_cons pe_str (pa_cons (pv 3) (pa_cons (pv 4) pa_nil)))) pa_nil)))) (pv 1) (fun _ _ => rfl))))))))))), ?_⟩
  refine body_go [some (.cel 0), none, none, none, none, none, none] (n := 1) rfl rfl wd ar ?_ q
  walk_at "a"
  refine ev_draw ?_
  walk_at "a"
  refine ⟨0, _, ws, B, rfl, rfl, hp, by omega, by decide, by decide, fun wy ws1 wy0 wy1 p1 => ?_⟩
  walk_at "a"
  refine ev_num (Pn := isNumberD) ?_
  walk_at "a"
  refine ⟨0, ws1, _, rfl, rfl, p1, by omega, fun nu ws2 hnu p2 => ?_⟩
  walk_at "a"
  refine ev_num (Pn := isLabelD) ?_
  walk_at "a"
  refine ⟨0, ws2, _, rfl, rfl, p2, by omega, fun lb ws3 hlb p3 => ?_⟩
  walk_at "a"
  refine ev_num (Pn := isAmountD) ?_
  walk_at "a"
  refine ⟨0, ws3, _, rfl, rfl, p3, by omega, fun am ws4 ham p4 => ?_⟩
  walk_at "a"
  refine ev_num (Pn := isNumberD) ?_
  walk_at "a"
  refine ⟨0, ws4, _, rfl, rfl, p4, by omega, fun n2 ws5 hn2 p5 => ?_⟩
  walk_at "a"
  refine ex_midC (fun E' cs' => ∃ d ws', isOther d ∧ PotD ws' (B + 30) ∧ E' = [some (.cel 0), some (.d (.int wy)), some (.d (.int nu)), some (.d (.int lb)), some (.d (.int am)), some (.d d), none] ∧ cs' = [.l ws']) ?_ ?_
  · walk_at "a"
    refine ev_draw ?_
    walk_at "a"
    refine ⟨0, _, ws5, _, rfl, rfl, p5, by omega, by decide, by decide, fun r6 ws6 a6 b6 p6 => ?_⟩
    walk_at "a"
    refine iteB (fun c => ?_) (fun c => ?_)
    · walk_at "a"
      exact Cm.here ⟨_, _, .inl rfl, p6.mono (by omega), rfl, rfl⟩
    · walk_at "a"
      exact Cm.here ⟨_, _, .inr ⟨_, rfl, hn2⟩, p6.mono (by omega), rfl, rfl⟩
  rintro E' cs' ⟨d, ws7, hd, p7, rfl, rfl⟩
  walk_at "a"
  refine ev_lstD ?_
  walk_at "a"
  refine ev_lstD ?_
  walk_at "a"
  refine o_cat (i := 1) (j := 2) rfl rfl (Nat.le_of_ble_eq_true rfl) ?_
  walk_at "a"
  refine ev_lstD ?_
  walk_at "a"
  refine o_cat (i := 3) (j := 4) rfl rfl (Nat.le_of_ble_eq_true rfl) ?_
  walk_at "a"
  refine ev_lstD ?_
  walk_at "a"
  refine o_cat (i := 5) (j := 6) rfl rfl (Nat.le_of_ble_eq_true rfl) ?_
  walk_at "a"
  have fin : ∀ (d : PyData) (rest : List Cell), GoodD d → Rt 1 k (.d d) (.l ws7 :: rest) := fun d rest hd => Rt.cut 1 (hk d ws7 hd (p7.mono (by omega))) (Nat.le_refl 1) rfl rfl
  obtain rfl | rfl | rfl | rfl | rfl | rfl | rfl | rfl | rfl | rfl | rfl | rfl : wy = 0 ∨ wy = 1 ∨ wy = 2 ∨ wy = 3 ∨ wy = 4 ∨ wy = 5 ∨ wy = 6 ∨ wy = 7 ∨ wy = 8 ∨ wy = 9 ∨ wy = 10 ∨ wy = 11 := by omega
  · exact o_ixL (by rfl) rfl (fin _ _ (gd_add hlb ham))
  · exact o_ixL (by rfl) rfl (fin _ _ (gd_label hnu hlb))
  · exact o_ixL (by rfl) rfl (fin _ _ (gd_moves hnu ham))
  · exact o_ixL (by rfl) rfl (fin _ _ (gd_tie hnu hd))
  · exact o_ixL (by rfl) rfl (fin _ _ (gd_fin hnu))
  · exact o_ixL (by rfl) rfl (fin _ _ (gd_own hlb))
  · exact o_ixL (by rfl) rfl (fin _ _ gd_run)
  · exact o_ixL (by rfl) rfl (fin _ _ gd_run)
  · exact o_ixL (by rfl) rfl (fin _ _ (gd_wlabel hnu hlb))
  · exact o_ixL (by rfl) rfl (fin _ _ (gd_wmoves hnu ham))
  · exact o_ixL (by rfl) rfl (fin _ _ (gd_wtie hnu hd))
  · exact o_ixL (by rfl) rfl (fin _ _ (gd_add hlb ham))
theorem ok_deeds (T : Tx K mg) (C : Addr) : FnOk P w K mg base CX0 4 T.deeds.a T.deeds.fd ["well", "most"] (spA K C ApDeeds) := by
  have G_draw := ok_draw (P := P) (w := w) (base := base) T C
  have G_deed := ok_deed (P := P) (w := w) (base := base) T C
  refine T.deeds.F.ok sc_deeds (fun vs H Q E h => spA_len (l := 2) (fun xs cs k ⟨_, _, _, h, _⟩ => by rw [h]; rfl) h) (fun cdv A outer s H vs Q E hr h => ?_)
  obtain ⟨F, as, cs, xs, k, wd, ar, ⟨ws, most, B, rfl, rfl, hp, hB, hm0, hm1, hk⟩, q⟩ := h
  refine ⟨_, (pss_cons (ps_set (i := 2) sc_deeds.nd rfl (Or.inl rfl) (pe_call G_draw (hr.mono (by first | decide | omega)) rfl T.draw.g T.draw.F.kp T.draw.b .nil pass0 (pa_cons (pv 0) (pa_cons pe_int pa_nil))))
  (pss_cons (ps_set (i := 3) sc_deeds.nd rfl (Or.inl rfl) (pe_ifExp (pt_cmpR op_lt (pv 2) pe_int (nomark _)) (pe_ix (ix_listK K) (pe_lst (pa_cons pe_int (pa_cons pe_int (pa_cons (pv 1) pa_nil)))) (pv 2) (fun _ _ => rfl)) (pe_call G_draw (hr.mono (by first | decide | omega)) rfl T.draw.g T.draw.F.kp T.draw.b .nil pass0 (pa_cons (pv 0) (pa_cons (pe_op op_add (pv 1) pe_int) pa_nil)))))
  (pss_one (ps_ret (pe_lc (own := [("turn", 4)]) (g := (gName 4)) (tt := tYes) rfl sc_deeds.nd (pi_range1 (by rfl) T.b_range (pa_cons (pv 3) pa_nil)) (blkOk_by (N := ["well", "most", "way", "size", "turn"]) (sc := defScope s_deeds) (by decide +kernel)) (fun _ _ _ _ _ => pg_name (i := 4) sc_deeds.nd rfl (Or.inl rfl)) (fun _ _ _ _ _ => pts_nil) (fun _ _ _ _ _ => (pe_call G_deed (hr.mono (by first | decide | omega)) rfl T.deed.g T.deed.F.kp T.deed.b .nil pass0 (pa_cons (pv 0) pa_nil)))))))), ?_⟩
  refine body_go [some (.cel 0), some (.d (.int most)), none, none, none] (n := 1) rfl rfl wd ar ?_ q
  walk_at "a"
  refine ev_draw ?_
  walk_at "a"
  refine ⟨0, _, ws, B, rfl, rfl, hp, by omega, by decide, by decide, fun wy ws1 wy0 wy1 p1 => ?_⟩
  walk_at "a"
  refine iteB (fun c => ?_) (fun c => ?_)
  · have c := of_decide_eq_true c
    walk_at "a"
    refine ev_lstF ?_
    walk_at "a"
    obtain ⟨sz, hsz, hsz0, hsz1⟩ : ∃ sz : Int, atI [PyData.int 0, .int 1, .int most] wy = some (.int sz) ∧ 0 ≤ sz ∧ sz ≤ most := by
      obtain rfl | rfl | rfl : wy = 0 ∨ wy = 1 ∨ wy = 2 := by omega
      · exact ⟨_, rfl, by omega, by omega⟩
      · exact ⟨_, rfl, by omega, by omega⟩
      · exact ⟨_, rfl, by omega, by omega⟩
    refine o_ixL (by rfl) hsz ?_
    walk_at "a"
    refine ev_lc 1 (ei_rng1 ?_)
    walk_at "a"
    refine ⟨by omega, by omega, rfl, by rw [rngA_len]; omega, fun i acc cs' => ∃ ws' : List PyData, cs' = [.l ws'] ∧ acc.length = i ∧ (∀ d ∈ acc, GoodD d) ∧ PotD ws' (B + 2 + 50 * i), ⟨ws1, rfl, rfl, fun d h => absurd h List.not_mem_nil, p1.mono (by omega)⟩, fun _ _ _ _ => trivial, ?_, ?_⟩
    · rintro i y acc cs' hy ⟨ws3, rfl, hal, had, hp3⟩
      obtain ⟨hi, rfl⟩ := rngA_get hy
      refine egc_name (by simp) (et_yes ?_)
      show Ev _ _ _ _ _ _
      refine ev_deed ?_
      walk_at "a"
      refine ⟨0, ws3, _, rfl, rfl, hp3, by omega, fun d ws4 hd hp4 => ?_⟩
      refine ⟨_, rfl, [], 1, rfl, Nat.le_refl 1, rfl, rfl, ws4, rfl, by rw [List.length_append, hal]; rfl, fun x hx => ?_, hp4.mono (by omega)⟩
      rcases List.mem_append.mp hx with hx | hx
      · exact had x hx
      · rw [List.mem_singleton.mp hx]; exact hd
    · rintro acc cs' ⟨ws3, rfl, hal, had, hp3⟩
      rw [rngA_len] at hal hp3
      exact Rt.here (hk acc ws3 had (by omega) (hp3.mono (by omega))) (Nat.le_of_ble_eq_true rfl) rfl rfl
  · have c := of_decide_eq_false c
    walk_at "a"
    refine ev_draw ?_
    walk_at "a"
    refine ⟨0, _, ws1, _, rfl, rfl, p1, by omega, by omega, by omega, fun sz ws2 sz0 sz1 p2 => ?_⟩
    walk_at "a"
    refine ev_lc 1 (ei_rng1 ?_)
    walk_at "a"
    refine ⟨by omega, by omega, rfl, by rw [rngA_len]; omega, fun i acc cs' => ∃ ws' : List PyData, cs' = [.l ws'] ∧ acc.length = i ∧ (∀ d ∈ acc, GoodD d) ∧ PotD ws' (B + 2 + 50 * i), ⟨ws2, rfl, rfl, fun d h => absurd h List.not_mem_nil, p2.mono (by omega)⟩, fun _ _ _ _ => trivial, ?_, ?_⟩
    · rintro i y acc cs' hy ⟨ws3, rfl, hal, had, hp3⟩
      obtain ⟨hi, rfl⟩ := rngA_get hy
      refine egc_name (by simp) (et_yes ?_)
      show Ev _ _ _ _ _ _
      refine ev_deed ?_
      walk_at "a"
      refine ⟨0, ws3, _, rfl, rfl, hp3, by omega, fun d ws4 hd hp4 => ?_⟩
      refine ⟨_, rfl, [], 1, rfl, Nat.le_refl 1, rfl, rfl, ws4, rfl, by rw [List.length_append, hal]; rfl, fun x hx => ?_, hp4.mono (by omega)⟩
      rcases List.mem_append.mp hx with hx | hx
      · exact had x hx
      · rw [List.mem_singleton.mp hx]; exact hd
    · rintro acc cs' ⟨ws3, rfl, hal, had, hp3⟩
      rw [rngA_len] at hal hp3
      exact Rt.here (hk acc ws3 had (by omega) (hp3.mono (by omega))) (Nat.le_of_ble_eq_true rfl) rfl rfl
end
end Y

set_option pp.deepTerms false
set_option pp.deepTerms.threshold 8
/-! # k12: what is refused -/
namespace Y
open PySem L2
local macro_rules | `(tactic| walk_at "a") => `(tactic| repeat (first
  | (with_reducible apply ev_int) | (with_reducible apply ev_str) | (with_reducible apply ev_bl) | (with_reducible apply ev_non) | (with_reducible apply ev_ty)
  | ((with_reducible apply ev_var); · rfl)
  | (with_reducible apply ev_op) | (with_reducible apply ev_un) | (with_reducible apply evs_nil) | (with_reducible apply evs_cons) | (with_reducible apply ev_cb) | (with_reducible apply ev_if)
  | (with_reducible apply et_test) | (with_reducible apply et_B) | (with_reducible apply et_and) | (with_reducible apply et_or) | (with_reducible apply et_not)
  | (with_reducible apply ex_seq) | (with_reducible apply ex_name) | (with_reducible apply ex_to) | (with_reducible apply ex_ret) | (with_reducible apply ex_if) | (with_reducible apply ex_drop) | (with_reducible apply ex_retN) | (with_reducible apply ex_next)
  | (with_reducible apply ex_par) | (with_reducible apply ex_par3) | (with_reducible apply eg_sub) | (with_reducible apply eg_name)
  | (with_reducible apply o_int) | (with_reducible apply o_bl) | (with_reducible apply o1_neg)
  | (with_reducible apply ev_andV) | (with_reducible apply ev_orV) | (with_reducible apply ev_notV)
  | (with_reducible apply ev_sl) | (with_reducible apply eo_part) | (with_reducible apply eo_no) | (with_reducible apply ev_bm) | (with_reducible apply ev_bm0)
  | (with_reducible apply ite_f) | (with_reducible apply ite_t) | (with_reducible apply ev_tupD) | (with_reducible apply ev_chain)
  | ((with_reducible apply o_ixL); (· rfl); (· rfl)) | ((with_reducible apply o_ixT); (· rfl); (· rfl))
  | ((with_reducible apply o_eq); (· rfl); (· rfl); (· rfl)) | ((with_reducible apply o_ne); (· rfl); (· rfl); (· rfl))
  | (with_reducible apply o_isN) | (with_reducible apply o_notN)
  | (with_reducible apply on_int) | (with_reducible apply on_intB) | (with_reducible apply on_max) | (with_reducible apply on_min) | (with_reducible apply on_abs)
  | ((with_reducible apply on_lenL); (· rfl)) | ((with_reducible apply on_lenT); (· rfl)) | ((with_reducible apply on_isD); (· rfl); (· decide))
  | ((with_reducible apply isSub); (· rfl); (· rfl)) | (with_reducible apply isB) | (with_reducible apply isI) | (with_reducible apply is2) | (with_reducible apply is3) | (with_reducible apply isI1) | (with_reducible apply isI2) | (with_reducible apply isT) | (with_reducible apply isL) | (with_reducible apply isScr) | ((with_reducible apply isDs); (· rfl); (· rfl))
  | ((with_reducible apply o_inT); (· rfl); (· rfl); (· decide +kernel); (· decide +kernel)) | ((with_reducible apply o_eqD); (· rfl); (· rfl); (· decide +kernel); (· decide +kernel))
  | ((with_reducible apply iteT'); · first | decide +kernel | rfl) | ((with_reducible apply iteF'); · first | decide +kernel | rfl)))
def NODEEDS : List AV := [.d (.none), .d (.tuple []), .d (.tuple [.str "add", .int (1)]), .d (.tuple [.str "add", .int (1), .int (2), .int (3)]), .d (.tuple [.str "add", .int (-1), .int (0)]), .d (.tuple [.str "add", .int (1000000000000000000000000000000), .int (0)]), .d (.tuple [.str "add", .int (1), .int (1000000000001)]), .d (.tuple [.str "add", .int (1), .int (-1000000000001)]), .d (.tuple [.str "add", .bool true, .int (0)]), .d (.tuple [.str "add", .int (1), .none]), .d (.tuple [.str "add", .str "1", .int (2)]), .d (.tuple [.str "label", .int (0), .int (1)]), .d (.tuple [.str "label", .int (1), .int (-1)]), .d (.tuple [.str "label", .int (1000000001), .int (1)]), .d (.tuple [.str "label", .int (1), .none]), .d (.tuple [.str "moves", .int (1), .int (1000000000001)]), .d (.tuple [.str "moves", .bool true, .int (1)]), .d (.tuple [.str "tie", .int (1), .int (0)]), .d (.tuple [.str "tie", .int (1), .bool true]), .d (.tuple [.str "tie", .int (1), .str "none"]), .d (.tuple [.str "tie", .none, .int (1)]), .d (.tuple [.str "end", .none]), .d (.tuple [.str "end"]), .d (.tuple [.str "end", .int (1), .int (1)]), .d (.tuple [.str "own", .int (-1)]), .d (.tuple [.str "own", .int (1000000000000000000000000000000)]), .d (.tuple [.str "own", .bool true]), .d (.tuple [.str "own"]), .d (.tuple [.str "own", .int (1), .int (0)]), .d (.tuple [.str "write label", .int (1), .int (-1)]), .d (.tuple [.str "write label", .int (0), .int (1)]), .d (.tuple [.str "write moves", .int (1), .none]), .d (.list [.str "run"]), .d (.tuple [.str "write tie", .int (1), .int (0)]), .d (.tuple [.str "write tie", .int (0), .none]), .d (.tuple [.str "write", .str "label", .int (1), .int (2)]), .d (.tuple [.str "write start", .int (1), .int (2)]), .d (.str "run"), .d (.int (0)), .d (.tuple [.str "run", .int (1)]), .d (.tuple [.str "run", .tuple []]), .d (.tuple [.str "Run"]), .d (.tuple [.str "runs"]), .d (.tuple [.list [.str "run"]]), .d (.bool true), .dct, .d (.tuple [.str "drop"]), .d (.tuple [.str "make", .str "all"]), .d (.tuple [.str "tie", .int (1)]), .d (.tuple [.str "label", .list [.int (1)], .int (1)]), .d (.tuple [.str "moves", .int (1), .str "5"]), .d (.tuple [.str "tie", .int (1), .int (1000000001)]), .d (.tuple [.str "end", .int (-1)]), .d (.tuple [.str "end", .bool false]), .d (.tuple [.str "end", .int (0)])]
theorem nodeeds_ok : NODEEDS.all (fun x => deedA x == some false && AV.lt 0 x && eqSelf x) = true := by decide +kernel
theorem nodeeds_at {y : AV} (h : y ∈ NODEEDS) : deedA y = some false ∧ AV.lt 0 y = true ∧ eqSelf y = true := by
  have := List.all_eq_true.mp nodeeds_ok y h
  simp only [Bool.and_eq_true, beq_iff_eq] at this
  exact ⟨this.1.1, this.1.2, this.2⟩
mutual
theorem lt_mono {n m : Nat} (h : n ≤ m) : ∀ {x : AV}, AV.lt n x = true → AV.lt m x = true
  | .d _, _ => rfl
  | .tup xs, g => ltAll_mono h (xs := xs) g
  | .cel i, g => decide_eq_true (Nat.lt_of_lt_of_le (of_decide_eq_true g) h)
  | .sub i _, g => decide_eq_true (Nat.lt_of_lt_of_le (of_decide_eq_true g) h)
  | .scr _, _ => rfl
  | .ty _, _ => rfl
  | .dct, _ => rfl
  | .raw _, _ => rfl
  | .exn _ _ _ x, g => lt_mono h (x := x) g
theorem ltAll_mono {n m : Nat} (h : n ≤ m) : ∀ {xs : List AV}, AV.ltAll n xs = true → AV.ltAll m xs = true
  | [], _ => rfl
  | x :: xs, g => by
    have g : (AV.lt n x && AV.ltAll n xs) = true := g
    rw [Bool.and_eq_true] at g
    show (AV.lt m x && AV.ltAll m xs) = true
    rw [lt_mono h g.1, ltAll_mono h g.2]; rfl
end
def ApNoDeed : ASp := fun xs cs k => ∃ w : Int, xs = [.d (.int w)] ∧ cs = [] ∧ 0 ≤ w ∧ ∀ y, y ∈ NODEEDS → k y []
def ApWholeT : ASp := fun xs cs k => ∃ a : Int, xs = [.d (.int a), .d (.int a)] ∧ cs = [] ∧ k (.d (.bool true)) []
def ApLikeS : ASp := fun xs cs k => ∃ s : Str, xs = [.d (.str s), .d (.str s)] ∧ cs = [] ∧ k (.d (.bool true)) []
/-- what is refused stays as it was -/
def BadOk (y : AV) (cs : List Cell) : Prop := (cs = [] ∧ eqSelf y = true) ∨ ∃ ys, y = .cel 0 ∧ cs = [.a ys] ∧ ∀ z ∈ ys, eqSelf z = true
def ApTried : ASp := fun xs cs k => ∃ y r, xs = [y] ∧ TextOf y cs r ∧ (∀ s, r = .inl s → k (.d (.tuple [.tuple [.str "made"], .str s])) cs) ∧ ∀ i : Nat, r = .inr i → k (.d (.tuple [.tuple [.str "deed", .int i], .none])) cs
def ApClasses : ASp := fun xs cs k => ∃ y i, xs = [y] ∧ TextOf y cs (.inr i) ∧ k (.d (.tuple [.bool true, .bool true, .bool false, .bool false])) cs
def ApRefused : ASp := fun xs cs k => ∃ (y : AV) (i : Nat), xs = [y, .d (.int i)] ∧ TextOf y cs (.inr i) ∧ BadOk y cs ∧ k (.d (.bool true)) cs
section
variable {K : PySem.W.Frag} {C : Addr} {F F' H H' : Hp} {as as' : Own} {E : AEnv} {cs cs1 : List Cell} {tas : TA} {k : AV → List Cell → Prop} {X : XK} {W : WX} {ex : EX}
theorem ev_isTD2 {te : TE} {a b : String} (hl : ∀ c ∈ [a, b], c ∈ ["bool", "int", "str", "list", "tuple", "dict"]) (h : Ev K C E cs te fun x cs1 => ∃ s, tyA x cs1 = some s ∧ k (.d (.bool ([a, b].any (isTy s)))) cs1) : Ev K C E cs (tCB (rIsTD K) (tCons te (tCons (tTup (tCons (tC (.ty a)) (tCons (tC (.ty b)) tNil))) tNil))) k := fun F as H σ Q w e z => by
  refine h F as H σ _ w e fun x cs1 v F1 as1 H1 ⟨s, h1, hk⟩ s1 w1 r1 => ?_
  refine ⟨line_of (Nat.le_of_ble_eq_true rfl), fun p hp => ?_⟩
  have hF : F1 p = none := w1.fro.free hp
  obtain ⟨w2, s2, sF⟩ := w1.newF hp (.tup [.ty a, .ty b])
  obtain ⟨t1, t2⟩ := tyA_at h1 w2 (r1.mono sF Pre.refl)
  exact ⟨v, p, [a, b], s, rfl, upd_same, t1, t2, hl, (Kt.later z (s1.tr s2)).now hk w2 (.d (.bl _))⟩
theorem ev_noDeed (h : Evs K C E cs tas fun xs cs1 => ∃ w : Int, xs = [.d (.int w)] ∧ 0 ≤ w ∧ ∀ y, y ∈ NODEEDS → k y cs1) : Ev K C E cs (tCall (spA K C ApNoDeed) [] X tas) k :=
  ev_callF fun F as H σ Q w e z => h F as H σ Q w e fun xs cs1 v F' as' H' ⟨i, h1, h2, h3⟩ => z xs cs1 v F' as' H' ⟨by rw [h1]; rfl, i, h1, rfl, h2, fun y hy => by
    show k (y.ren _) (putC cs1 [] [])
    rw [AV.ren0 (nodeeds_at hy).2.1, putC_nil]; exact h3 y hy⟩
theorem ev_wholeT (h : Evs K C E cs tas fun xs cs1 => ∃ a : Int, xs = [.d (.int a), .d (.int a)] ∧ k (.d (.bool true)) cs1) : Ev K C E cs (tCall (spA K C ApWholeT) [] X tas) k :=
  ev_callF fun F as H σ Q w e z => h F as H σ Q w e fun xs cs1 v F' as' H' ⟨a, h1, h5⟩ => z xs cs1 v F' as' H' ⟨by rw [h1]; rfl, a, h1, rfl, by
    show k (.d (.bool _)) (putC cs1 [] [])
    rw [putC_nil]; exact h5⟩
theorem ev_likeS (h : Evs K C E cs tas fun xs cs1 => ∃ s : Str, xs = [.d (.str s), .d (.str s)] ∧ k (.d (.bool true)) cs1) : Ev K C E cs (tCall (spA K C ApLikeS) [] X tas) k :=
  ev_callF fun F as H σ Q w e z => h F as H σ Q w e fun xs cs1 v F' as' H' ⟨a, h1, h5⟩ => z xs cs1 v F' as' H' ⟨by rw [h1]; rfl, a, h1, rfl, by
    show k (.d (.bool _)) (putC cs1 [] [])
    rw [putC_nil]; exact h5⟩
/-- what a call with one argument, a cell or none, says -/
theorem callOk_y {y : AV} (h : AV.lt 0 y = true) : CallOk [] [y] [] [y] cs := CallOk.free (by show (AV.lt 0 y && true) = true; rw [h]; rfl)
theorem ev_ldt (h : Evs K C E cs tas fun xs cs1 => ∃ (i : Nat) (ds : List PyData), xs = [.cel i] ∧ cs1[i]? = some (.l ds) ∧ (∀ d ∈ ds, GoodD d) ∧ ds.length ≤ 250 ∧ k (.d (.str (deedsT ds))) cs1) : Ev K C E cs (tCall (spA K C ApDT) [] X tas) k :=
  ev_call1 fun F as H σ Q w e z => h F as H σ Q w e fun xs cs1 v F' as' H' ⟨i, ds, hx, hc, hd, hl, hk⟩ => z xs cs1 v F' as' H' ⟨i, ds, [], hx, hc, ds, rfl, rfl, hd, hl, by
      show k (.d (.str (deedsT ds))) (putC cs1 [i] [.l ds])
      simp only [putC, List.append_nil]
      rw [set_sameC hc]
      exact hk⟩
where
  set_sameC {i : Nat} {c : Cell} {cs : List Cell} (h : cs[i]? = some c) : cs.set i c = cs := by
    apply List.ext_getElem?
    intro j
    rw [List.getElem?_set]
    by_cases e : i = j
    · subst e
      rw [if_pos rfl, if_pos (List.getElem?_eq_some_iff.mp h).1, h]
    · rw [if_neg e]
theorem ev_triedL (h : Evs K C E cs tas fun xs cs1 => ∃ (i : Nat) (ds : List PyData), xs = [.cel i] ∧ cs1[i]? = some (.l ds) ∧ (∀ d ∈ ds, GoodD d) ∧ ds.length ≤ 250 ∧ k (.d (.tuple [.tuple [.str "made"], .str (deedsT ds)])) cs1) : Ev K C E cs (tCall (spA K C ApTried) [] X tas) k :=
  ev_call1 fun F as H σ Q w e z => h F as H σ Q w e fun xs cs1 v F' as' H' ⟨i, ds, hx, hc, hd, hl, hk⟩ => z xs cs1 v F' as' H' ⟨i, ds, [], hx, hc, .cel 0, _, rfl, .ok hd hl, fun s hs => by
      cases hs
      show k (.d (.tuple [.tuple [.str "made"], .str (deedsT ds)])) (putC cs1 [i] [.l ds])
      simp only [putC, List.append_nil]
      rw [ev_ldt.set_sameC hc]
      exact hk, fun i hi => by cases hi⟩
/-- a refused list -/
theorem ev_refusedA (h : Evs K C E cs tas fun xs cs1 => ∃ (j : Nat) (ys : List AV) (bs : List Bool) (i : Nat), xs = [.cel j, .d (.int i)] ∧ cs1[j]? = some (.a ys) ∧ ys.map deedA = bs.map some ∧ ys.length ≤ 100000 ∧ AV.ltAll 0 ys = true ∧ firstF 0 bs = some i ∧ (∀ z ∈ ys, eqSelf z = true) ∧ k (.d (.bool true)) cs1) : Ev K C E cs (tCall (spA K C ApRefused) [] X tas) k :=
  ev_call fun F as H σ Q w e z => h F as H σ Q w e fun xs cs1 v F' as' H' ⟨j, ys, bs, i, hx, hc, h1, h2, h3, h4, h5, hk⟩ => z xs cs1 v F' as' H' ⟨[j], [.cel 0, .d (.int i)], [.a ys],
    ⟨by simp, fun t ht => by rw [List.mem_singleton.mp ht]; exact (List.getElem?_eq_some_iff.mp hc).1, by rw [hx]; rfl, rfl, by
      simp only [List.map, hc]
      show [some (Cell.a ys)] = [some (Cell.a (AV.renAll _ ys))]
      rw [AV.renAll0 h3], by
      show (AV.ltAll 1 ys && true) = true
      rw [ltAll_mono (by omega) h3]; rfl⟩, .cel 0, i, rfl, .bad h1 h2 h3 h4, .inr ⟨ys, rfl, rfl, h5⟩, by
    show k (.d (.bool true)) (cs1.set j (.a (AV.renAll _ ys)) ++ [])
    rw [AV.renAll0 h3, ev_ldt.set_sameC hc, List.append_nil]
    exact hk⟩
theorem ev_refusedN (h : Evs K C E cs tas fun xs cs1 => ∃ (y : AV) (t : String), xs = [y, .d (.int 0)] ∧ tyA y [] = some t ∧ t ≠ "list" ∧ AV.lt 0 y = true ∧ eqSelf y = true ∧ k (.d (.bool true)) cs1) : Ev K C E cs (tCall (spA K C ApRefused) [] X tas) k :=
  ev_callF fun F as H σ Q w e z => h F as H σ Q w e fun xs cs1 v F' as' H' ⟨y, t, hx, h1, h2, h3, h4, hk⟩ => z xs cs1 v F' as' H' ⟨by rw [hx]; show (AV.lt 0 y && true) = true; rw [h3]; rfl, y, 0, hx, .no h1 h2 h3, .inl ⟨rfl, h4⟩, by
    show k (.d (.bool true)) (putC cs1 [] [])
    rw [putC_nil]; exact hk⟩
end
theorem calls_cel {A : ASpX} {c : Cell} {k : AV → List Cell → Prop} {kx : KX} (hr : ∀ ρ, Cell.ren ρ c = c) (hl : Cell.lt 1 c = true) (hA : A [.cel 0] [c] (fun y cz' => k (y.ren (rho [0] 1)) (putC [c] [0] (cz'.map (Cell.ren (rho [0] 1))))) fun x p cz' => kx x (p.ren (rho [0] 1)) (putC [c] [0] (cz'.map (Cell.ren (rho [0] 1))))) : Calls A [.cel 0] [c] k kx :=
  ⟨[0], [.cel 0], [c], ⟨by simp, fun i hi => by rw [List.mem_singleton.mp hi]; exact Nat.zero_lt_one, rfl, rfl, by
    show [some c] = [some (Cell.ren _ c)]
    rw [hr], by
    show (Cell.lt 1 c && true) = true
    rw [hl]; rfl⟩, hA⟩
theorem ren_a {ys : List AV} (h : AV.ltAll 0 ys = true) (ρ : Nat → Nat) : Cell.ren ρ (.a ys) = .a ys := by
  show Cell.a (AV.renAll ρ ys) = _
  rw [AV.renAll0 h]
section
variable {P : Program} {w : World} {K : PySem.W.Frag} {mg : Str → Option Value} {base : Heap}
theorem ok_likeS (T : Tx K mg) (C : Addr) : FnOk P w K mg base CX0 1 T.like.a T.like.fd ["actual", "expected"] (spA K C ApLikeS) := by
  have G_like : FnOk P w K mg base CX0 0 T.like.a T.like.fd ["actual", "expected"] (fun _ _ _ _ => False) := ⟨fun _ _ _ _ z => z.elim, fun _ _ _ _ _ _ _ _ _ _ _ _ _ z => z.elim⟩
  refine T.like.F.ok sc_like (fun vs H Q E h => spA_len (l := 2) (fun xs cs k ⟨_, h, _⟩ => by rw [h]; rfl) h) (fun cdv A outer s H vs Q E hr h => ?_)
  obtain ⟨F, as, cs, xs, k, wd, ar, ⟨z, rfl, rfl, hk⟩, q⟩ := h
  refine ⟨_, (pss_cons (ps_if (pt_cmpR op_isN (pv 1) pe_non (nomark _))
  (pss_one (ps_ret (pe_cmpR op_isN (pv 0) pe_non (nomark _))))
  pss_nil)
  (pss_cons (ps_if (pt_val (pe_callB (call_isTDK K) (by rfl) T.b_isinstance (by decide +kernel) (pa_cons (pv 1) (pa_cons (pe_tup (pa_cons (pe_bltn (v := .ty "list") (by rfl) T.b_list (by decide +kernel) rfl) (pa_cons (pe_bltn (v := .ty "tuple") (by rfl) T.b_tuple (by decide +kernel) rfl) pa_nil))) pa_nil))))
  (pss_cons (ps_if (pt_cmpR op_ne (pe_callB (call_isDK K) (by rfl) T.b_isinstance (by decide +kernel) (pa_cons (pv 0) (pa_cons (pe_bltn (v := .ty "list") (by rfl) T.b_list (by decide +kernel) rfl) pa_nil))) (pe_callB (call_isDK K) (by rfl) T.b_isinstance (by decide +kernel) (pa_cons (pv 1) (pa_cons (pe_bltn (v := .ty "list") (by rfl) T.b_list (by decide +kernel) rfl) pa_nil))) (nomark _))
  (pss_one (ps_ret pe_bl))
  pss_nil)
  (pss_cons (ps_if (PW.pt (pw_or (pt_cmpR op_ne (pe_callB (call_isDK K) (by rfl) T.b_isinstance (by decide +kernel) (pa_cons (pv 0) (pa_cons (pe_bltn (v := .ty "tuple") (by rfl) T.b_tuple (by decide +kernel) rfl) pa_nil))) (pe_callB (call_isDK K) (by rfl) T.b_isinstance (by decide +kernel) (pa_cons (pv 1) (pa_cons (pe_bltn (v := .ty "tuple") (by rfl) T.b_tuple (by decide +kernel) rfl) pa_nil))) (nomark _)) (pw_or1 (pt_cmpR op_ne (pe_callB (call_lenK K) (by rfl) T.b_len (by decide +kernel) (pa_cons (pv 0) pa_nil)) (pe_callB (call_lenK K) (by rfl) T.b_len (by decide +kernel) (pa_cons (pv 1) pa_nil)) (nomark _)))))
  (pss_one (ps_ret pe_bl))
  pss_nil)
  (pss_one (ps_ret (pe_callB (cr_allK K rfl) (by rfl) T.b_all (by decide +kernel) (pa_cons (pe_lc (own := [("k", 2)]) (g := (gName 2)) (tt := tYes) rfl sc_like.nd (pi_range1 (by rfl) T.b_range (pa_cons (pe_callB (call_lenK K) (by rfl) T.b_len (by decide +kernel) (pa_cons (pv 1) pa_nil)) pa_nil)) (blkOk_by (N := ["actual", "expected", "k"]) (sc := defScope s_like) (by decide +kernel)) (fun _ _ _ _ _ => pg_name (i := 2) sc_like.nd rfl (Or.inl rfl)) (fun _ _ _ _ _ => pts_nil) (fun _ _ _ _ _ => (pe_call G_like (hr.mono (by first | decide | omega)) rfl T.like.g T.like.F.kp T.like.b .nil pass0 (pa_cons (pe_ix (ix_seqK K) (pv 0) (pv 2) (fun _ _ => rfl)) (pa_cons (pe_ix (ix_seqK K) (pv 1) (pv 2) (fun _ _ => rfl)) pa_nil))))) pa_nil))))))
  pss_nil)
  (pss_cons (ps_if (pt_val (pe_callB (call_isDK K) (by rfl) T.b_isinstance (by decide +kernel) (pa_cons (pv 1) (pa_cons (pe_bltn (v := .ty "str") (by rfl) T.b_str (by decide +kernel) rfl) pa_nil))))
  (pss_one (ps_ret (pe_and (pe_callB (call_isDK K) (by rfl) T.b_isinstance (by decide +kernel) (pa_cons (pv 0) (pa_cons (pe_bltn (v := .ty "str") (by rfl) T.b_str (by decide +kernel) rfl) pa_nil))) (pe_one (pe_cmpR (op_eqAK K (hu65 hr)) (pv 0) (pv 1) (nomark _))))))
  pss_nil)
  (pss_one (ps_ret (pe_and (pe_callB (call_isDK K) (by rfl) T.b_isinstance (by decide +kernel) (pa_cons (pv 0) (pa_cons (pe_bltn (v := .ty "int") (by rfl) T.b_int (by decide +kernel) rfl) pa_nil))) (pe_and (pe_not (pe_callB (call_isDK K) (by rfl) T.b_isinstance (by decide +kernel) (pa_cons (pv 0) (pa_cons (pe_bltn (v := .ty "bool") (by rfl) T.b_bool (by decide +kernel) rfl) pa_nil)))) (pe_one (pe_cmpR (op_eqAK K (hu65 hr)) (pv 0) (pv 1) (nomark _)))))))))), ?_⟩
  refine body_go [some (.d (.str z)), some (.d (.str z)), none] (n := 0) rfl rfl wd ar ?_ q
  refine ex_seq (ex_if (et_test (ev_op (ev_var rfl (ev_non (o_isN (isB (iteF' rfl (ex_next ?_)))))))))
  refine ex_seq (ex_if (et_test (ev_isTD2 (a := "list") (b := "tuple") (by decide) ?_)))
  walk_at "a"
  refine ⟨"str", rfl, ?_⟩
  walk_at "a"
  refine o_eqA1 (r := rEq) (o_eq rfl rfl rfl ?_)
  rw [decide_eq_true rfl]
  exact Rt.here hk (Nat.zero_le _) rfl rfl
theorem ok_lwhole (T : Tx K mg) (C : Addr) : FnOk P w K mg base CX0 1 T.whole.a T.whole.fd ["actual", "expected"] (spA K C ApWholeT) := by
  refine T.whole.F.ok sc_whole (fun vs H Q E h => spA_len (l := 2) (fun xs cs k ⟨_, h, _⟩ => by rw [h]; rfl) h) (fun cdv A outer s H vs Q E hr h => ?_)
  obtain ⟨F, as, cs, xs, k, wd, ar, ⟨a, rfl, rfl, hk⟩, q⟩ := h
  refine ⟨_, (pss_one (ps_ret (pe_and (pe_callB (call_isDK K) (by rfl) T.b_isinstance (by decide +kernel) (pa_cons (pv 0) (pa_cons (pe_bltn (v := .ty "int") (by rfl) T.b_int (by decide +kernel) rfl) pa_nil))) (pe_and (pe_not (pe_callB (call_isDK K) (by rfl) T.b_isinstance (by decide +kernel) (pa_cons (pv 0) (pa_cons (pe_bltn (v := .ty "bool") (by rfl) T.b_bool (by decide +kernel) rfl) pa_nil)))) (pe_one (pe_cmpR (op_eqAK K (hu65 hr)) (pv 0) (pv 1) (nomark _))))))), ?_⟩
  refine body_go [some (.d (.int a)), some (.d (.int a))] (n := 0) rfl rfl wd ar ?_ q
  walk_at "a"
  refine o_eqA1 (r := rEq) (o_eq rfl rfl rfl ?_)
  rw [decide_eq_true rfl]
  exact Rt.here hk (Nat.zero_le _) rfl rfl
theorem ok_no_deed (T : Tx K mg) (C : Addr) : FnOk P w K mg base CX0 1 T.no_deed.a T.no_deed.fd ["way"] (spA K C ApNoDeed) := by
  refine T.no_deed.F.ok sc_no_deed (fun vs H Q E h => spA_len (l := 1) (fun xs cs k ⟨_, h, _⟩ => by rw [h]; rfl) h) (fun cdv A outer s H vs Q E hr h => ?_)
  obtain ⟨F, as, cs, xs, k, wd, ar, ⟨z, rfl, rfl, hz, hk⟩, q⟩ := h
  refine ⟨_, (pss_cons (ps_set (i := 1) sc_no_deed.nd rfl (Or.inl rfl) (pe_lst (pa_cons pe_non (pa_cons (pe_tup pa_nil) (pa_cons (pe_tup (pa_cons pe_str (pa_cons pe_int pa_nil))) (pa_cons (pe_tup (pa_cons pe_str (pa_cons pe_int (pa_cons pe_int (pa_cons pe_int pa_nil))))) (pa_cons (pe_tup (pa_cons pe_str (pa_cons (pe_un un_neg pe_int) (pa_cons pe_int pa_nil)))) (pa_cons (pe_tup (pa_cons pe_str (pa_cons (pe_op op_powW pe_int pe_int) (pa_cons pe_int pa_nil)))) (pa_cons (pe_tup (pa_cons pe_str (pa_cons pe_int (pa_cons (pe_op op_add (pe_op op_powW pe_int pe_int) pe_int) pa_nil)))) pa_nil)))))))))
  (pss_cons (ps_set (i := 1) sc_no_deed.nd rfl (Or.inl rfl) (pe_op op_cat (pv 1) (pe_lst (pa_cons (pe_tup (pa_cons pe_str (pa_cons pe_int (pa_cons (pe_op op_sub (pe_un un_neg (pe_op op_powW pe_int pe_int)) pe_int) pa_nil)))) (pa_cons (pe_tup (pa_cons pe_str (pa_cons pe_bl (pa_cons pe_int pa_nil)))) (pa_cons (pe_tup (pa_cons pe_str (pa_cons pe_int (pa_cons pe_non pa_nil)))) (pa_cons (pe_tup (pa_cons pe_str (pa_cons pe_str (pa_cons pe_int pa_nil)))) (pa_cons (pe_tup (pa_cons pe_str (pa_cons pe_int (pa_cons pe_int pa_nil)))) pa_nil))))))))
  (pss_cons (ps_set (i := 1) sc_no_deed.nd rfl (Or.inl rfl) (pe_op op_cat (pv 1) (pe_lst (pa_cons (pe_tup (pa_cons pe_str (pa_cons pe_int (pa_cons (pe_un un_neg pe_int) pa_nil)))) (pa_cons (pe_tup (pa_cons pe_str (pa_cons (pe_op op_add (pe_op op_powW pe_int pe_int) pe_int) (pa_cons pe_int pa_nil)))) (pa_cons (pe_tup (pa_cons pe_str (pa_cons pe_int (pa_cons pe_non pa_nil)))) (pa_cons (pe_tup (pa_cons pe_str (pa_cons pe_int (pa_cons (pe_op op_add (pe_op op_powW pe_int pe_int) pe_int) pa_nil)))) pa_nil)))))))
  (pss_cons (ps_set (i := 1) sc_no_deed.nd rfl (Or.inl rfl) (pe_op op_cat (pv 1) (pe_lst (pa_cons (pe_tup (pa_cons pe_str (pa_cons pe_bl (pa_cons pe_int pa_nil)))) (pa_cons (pe_tup (pa_cons pe_str (pa_cons pe_int (pa_cons pe_int pa_nil)))) (pa_cons (pe_tup (pa_cons pe_str (pa_cons pe_int (pa_cons pe_bl pa_nil)))) (pa_cons (pe_tup (pa_cons pe_str (pa_cons pe_int (pa_cons pe_str pa_nil)))) (pa_cons (pe_tup (pa_cons pe_str (pa_cons pe_non (pa_cons pe_int pa_nil)))) pa_nil))))))))
  (pss_cons (ps_set (i := 1) sc_no_deed.nd rfl (Or.inl rfl) (pe_op op_cat (pv 1) (pe_lst (pa_cons (pe_tup (pa_cons pe_str (pa_cons pe_non pa_nil))) (pa_cons (pe_tup (pa_cons pe_str pa_nil)) (pa_cons (pe_tup (pa_cons pe_str (pa_cons pe_int (pa_cons pe_int pa_nil)))) (pa_cons (pe_tup (pa_cons pe_str (pa_cons (pe_un un_neg pe_int) pa_nil))) (pa_cons (pe_tup (pa_cons pe_str (pa_cons (pe_op op_powW pe_int pe_int) pa_nil))) (pa_cons (pe_tup (pa_cons pe_str (pa_cons pe_bl pa_nil))) (pa_cons (pe_tup (pa_cons pe_str pa_nil)) pa_nil))))))))))
  (pss_cons (ps_set (i := 1) sc_no_deed.nd rfl (Or.inl rfl) (pe_op op_cat (pv 1) (pe_lst (pa_cons (pe_tup (pa_cons pe_str (pa_cons pe_int (pa_cons pe_int pa_nil)))) (pa_cons (pe_tup (pa_cons pe_str (pa_cons pe_int (pa_cons (pe_un un_neg pe_int) pa_nil)))) (pa_cons (pe_tup (pa_cons pe_str (pa_cons pe_int (pa_cons pe_int pa_nil)))) (pa_cons (pe_tup (pa_cons pe_str (pa_cons pe_int (pa_cons pe_non pa_nil)))) (pa_cons (pe_lst (pa_cons pe_str pa_nil)) pa_nil))))))))
  (pss_cons (ps_set (i := 1) sc_no_deed.nd rfl (Or.inl rfl) (pe_op op_cat (pv 1) (pe_lst (pa_cons (pe_tup (pa_cons pe_str (pa_cons pe_int (pa_cons pe_int pa_nil)))) (pa_cons (pe_tup (pa_cons pe_str (pa_cons pe_int (pa_cons pe_non pa_nil)))) (pa_cons (pe_tup (pa_cons pe_str (pa_cons pe_str (pa_cons pe_int (pa_cons pe_int pa_nil))))) (pa_cons (pe_tup (pa_cons pe_str (pa_cons pe_int (pa_cons pe_int pa_nil)))) pa_nil)))))))
  (pss_cons (ps_set (i := 1) sc_no_deed.nd rfl (Or.inl rfl) (pe_op op_cat (pv 1) (pe_lst (pa_cons pe_str (pa_cons pe_int pa_nil)))))
  (pss_cons (ps_set (i := 1) sc_no_deed.nd rfl (Or.inl rfl) (pe_op op_cat (pv 1) (pe_lst (pa_cons (pe_tup (pa_cons pe_str (pa_cons pe_int pa_nil))) (pa_cons (pe_tup (pa_cons pe_str (pa_cons (pe_tup pa_nil) pa_nil))) (pa_cons (pe_tup (pa_cons pe_str pa_nil)) (pa_cons (pe_tup (pa_cons pe_str pa_nil)) (pa_cons (pe_tup (pa_cons (pe_lst (pa_cons pe_str pa_nil)) pa_nil)) (pa_cons pe_bl (pa_cons pe_dnewK (pa_cons (pe_tup (pa_cons pe_str pa_nil)) (pa_cons (pe_tup (pa_cons pe_str (pa_cons pe_str pa_nil))) pa_nil))))))))))))
  (pss_cons (ps_set (i := 1) sc_no_deed.nd rfl (Or.inl rfl) (pe_op op_cat (pv 1) (pe_lst (pa_cons (pe_tup (pa_cons pe_str (pa_cons pe_int pa_nil))) (pa_cons (pe_tup (pa_cons pe_str (pa_cons (pe_lst (pa_cons pe_int pa_nil)) (pa_cons pe_int pa_nil)))) (pa_cons (pe_tup (pa_cons pe_str (pa_cons pe_int (pa_cons pe_str pa_nil)))) (pa_cons (pe_tup (pa_cons pe_str (pa_cons pe_int (pa_cons (pe_op op_add (pe_op op_powW pe_int pe_int) pe_int) pa_nil)))) (pa_cons (pe_tup (pa_cons pe_str (pa_cons (pe_un un_neg pe_int) pa_nil))) pa_nil))))))))
  (pss_cons (ps_set (i := 1) sc_no_deed.nd rfl (Or.inl rfl) (pe_op op_cat (pv 1) (pe_lst (pa_cons (pe_tup (pa_cons pe_str (pa_cons pe_bl pa_nil))) (pa_cons (pe_tup (pa_cons pe_str (pa_cons pe_int pa_nil))) pa_nil)))))
  (pss_one (ps_ret (pe_ix (ix_listK K) (pv 1) (pe_op op_mod (pe_callTy call_int1 (by rfl) T.b_int (by decide +kernel) (pa_cons (pv 0) pa_nil)) (pe_callB (call_lenK K) (by rfl) T.b_len (by decide +kernel) (pa_cons (pv 1) pa_nil))) (fun _ _ => rfl))))))))))))))), ?_⟩
  refine body_go [some (.d (.int z)), none] (n := 0) rfl rfl wd ar ?_ q
  have e30 : (10 : Int) ^ Int.toNat 30 = 1000000000000000000000000000000 := by decide
  have c30 : CPowW 10 30 := ⟨by decide, by decide⟩
  have e12 : (10 : Int) ^ Int.toNat 12 = 1000000000000 := by decide
  have c12 : CPowW 10 12 := ⟨by decide, by decide⟩
  have e9 : (10 : Int) ^ Int.toNat 9 = 1000000000 := by decide
  have c9 : CPowW 10 9 := ⟨by decide, by decide⟩
  walk_at "a"
  refine ev_lst ?_
  walk_at "a"
  repeat (first
    | (refine o_intC c30 ?_; rw [e30]; walk_at "a")
    | (refine o_intC c12 ?_; rw [e12]; walk_at "a")
    | (refine o_intC c9 ?_; rw [e9]; walk_at "a")
    | (refine ev_lstF ?_; walk_at "a")
    | (refine ev_dct ?_; walk_at "a"))
  refine ⟨Nat.le_of_ble_eq_true rfl, ?_⟩
  walk_at "a"
  refine ev_lst ?_
  walk_at "a"
  repeat (first
    | (refine o_intC c30 ?_; rw [e30]; walk_at "a")
    | (refine o_intC c12 ?_; rw [e12]; walk_at "a")
    | (refine o_intC c9 ?_; rw [e9]; walk_at "a")
    | (refine ev_lstF ?_; walk_at "a")
    | (refine ev_dct ?_; walk_at "a"))
  refine ⟨Nat.le_of_ble_eq_true rfl, ?_⟩
  refine o_catL (by rfl) (by rfl) (Nat.le_of_ble_eq_true rfl) ?_
  walk_at "a"
  refine ev_lst ?_
  walk_at "a"
  repeat (first
    | (refine o_intC c30 ?_; rw [e30]; walk_at "a")
    | (refine o_intC c12 ?_; rw [e12]; walk_at "a")
    | (refine o_intC c9 ?_; rw [e9]; walk_at "a")
    | (refine ev_lstF ?_; walk_at "a")
    | (refine ev_dct ?_; walk_at "a"))
  refine ⟨Nat.le_of_ble_eq_true rfl, ?_⟩
  refine o_catL (by rfl) (by rfl) (Nat.le_of_ble_eq_true rfl) ?_
  walk_at "a"
  refine ev_lst ?_
  walk_at "a"
  repeat (first
    | (refine o_intC c30 ?_; rw [e30]; walk_at "a")
    | (refine o_intC c12 ?_; rw [e12]; walk_at "a")
    | (refine o_intC c9 ?_; rw [e9]; walk_at "a")
    | (refine ev_lstF ?_; walk_at "a")
    | (refine ev_dct ?_; walk_at "a"))
  refine ⟨Nat.le_of_ble_eq_true rfl, ?_⟩
  refine o_catL (by rfl) (by rfl) (Nat.le_of_ble_eq_true rfl) ?_
  walk_at "a"
  refine ev_lst ?_
  walk_at "a"
  repeat (first
    | (refine o_intC c30 ?_; rw [e30]; walk_at "a")
    | (refine o_intC c12 ?_; rw [e12]; walk_at "a")
    | (refine o_intC c9 ?_; rw [e9]; walk_at "a")
    | (refine ev_lstF ?_; walk_at "a")
    | (refine ev_dct ?_; walk_at "a"))
  refine ⟨Nat.le_of_ble_eq_true rfl, ?_⟩
  refine o_catL (by rfl) (by rfl) (Nat.le_of_ble_eq_true rfl) ?_
  walk_at "a"
  refine ev_lst ?_
  walk_at "a"
  repeat (first
    | (refine o_intC c30 ?_; rw [e30]; walk_at "a")
    | (refine o_intC c12 ?_; rw [e12]; walk_at "a")
    | (refine o_intC c9 ?_; rw [e9]; walk_at "a")
    | (refine ev_lstF ?_; walk_at "a")
    | (refine ev_dct ?_; walk_at "a"))
  refine ⟨Nat.le_of_ble_eq_true rfl, ?_⟩
  refine o_catL (by rfl) (by rfl) (Nat.le_of_ble_eq_true rfl) ?_
  walk_at "a"
  refine ev_lst ?_
  walk_at "a"
  repeat (first
    | (refine o_intC c30 ?_; rw [e30]; walk_at "a")
    | (refine o_intC c12 ?_; rw [e12]; walk_at "a")
    | (refine o_intC c9 ?_; rw [e9]; walk_at "a")
    | (refine ev_lstF ?_; walk_at "a")
    | (refine ev_dct ?_; walk_at "a"))
  refine ⟨Nat.le_of_ble_eq_true rfl, ?_⟩
  refine o_catL (by rfl) (by rfl) (Nat.le_of_ble_eq_true rfl) ?_
  walk_at "a"
  refine ev_lst ?_
  walk_at "a"
  repeat (first
    | (refine o_intC c30 ?_; rw [e30]; walk_at "a")
    | (refine o_intC c12 ?_; rw [e12]; walk_at "a")
    | (refine o_intC c9 ?_; rw [e9]; walk_at "a")
    | (refine ev_lstF ?_; walk_at "a")
    | (refine ev_dct ?_; walk_at "a"))
  refine ⟨Nat.le_of_ble_eq_true rfl, ?_⟩
  refine o_catL (by rfl) (by rfl) (Nat.le_of_ble_eq_true rfl) ?_
  walk_at "a"
  refine ev_lst ?_
  walk_at "a"
  repeat (first
    | (refine o_intC c30 ?_; rw [e30]; walk_at "a")
    | (refine o_intC c12 ?_; rw [e12]; walk_at "a")
    | (refine o_intC c9 ?_; rw [e9]; walk_at "a")
    | (refine ev_lstF ?_; walk_at "a")
    | (refine ev_dct ?_; walk_at "a"))
  refine ⟨Nat.le_of_ble_eq_true rfl, ?_⟩
  refine o_catL (by rfl) (by rfl) (Nat.le_of_ble_eq_true rfl) ?_
  walk_at "a"
  refine ev_lst ?_
  walk_at "a"
  repeat (first
    | (refine o_intC c30 ?_; rw [e30]; walk_at "a")
    | (refine o_intC c12 ?_; rw [e12]; walk_at "a")
    | (refine o_intC c9 ?_; rw [e9]; walk_at "a")
    | (refine ev_lstF ?_; walk_at "a")
    | (refine ev_dct ?_; walk_at "a"))
  refine ⟨Nat.le_of_ble_eq_true rfl, ?_⟩
  refine o_catL (by rfl) (by rfl) (Nat.le_of_ble_eq_true rfl) ?_
  walk_at "a"
  refine ev_lst ?_
  walk_at "a"
  repeat (first
    | (refine o_intC c30 ?_; rw [e30]; walk_at "a")
    | (refine o_intC c12 ?_; rw [e12]; walk_at "a")
    | (refine o_intC c9 ?_; rw [e9]; walk_at "a")
    | (refine ev_lstF ?_; walk_at "a")
    | (refine ev_dct ?_; walk_at "a"))
  refine ⟨Nat.le_of_ble_eq_true rfl, ?_⟩
  refine o_catL (by rfl) (by rfl) (Nat.le_of_ble_eq_true rfl) ?_
  walk_at "a"
  refine on_lenA (by rfl) ?_
  refine o_intC (show (0 : Int) < 55 by decide) ?_
  obtain ⟨i, hi⟩ : ∃ i : Nat, z % 55 = (i : Int) := ⟨(z % 55).toNat, by have := Int.emod_nonneg z (show (55 : Int) ≠ 0 by decide); omega⟩
  have hi55 : i < NODEEDS.length := by show i < 55; have := Int.emod_lt_of_pos z (show (0 : Int) < 55 by decide); omega
  refine o_ixA (ys := NODEEDS) (y := NODEEDS[i]) (by rfl) ?_ ?_
  · show atI NODEEDS (z % 55) = _
    rw [hi]
    exact atI_nat (List.getElem?_eq_getElem hi55)
  have hm := List.getElem_mem hi55
  exact Rt.cut 0 (hk _ hm) (Nat.le_refl 0) (nodeeds_at hm).2.1 rfl
theorem ok_tried (T : Tx K mg) (C : Addr) : FnOk P w K mg base CX0 7 T.tried.a T.tried.fd ["acts"] (spA K C ApTried) := by
  have GX_deeds_text := okx_deeds_text (P := P) (w := w) (base := base) T C
  refine T.tried.F.ok sc_tried (fun vs H Q E h => spA_len (l := 1) (fun xs cs k ⟨_, _, h, _⟩ => by rw [h]; rfl) h) (fun cdv A outer s H vs Q E hr h => ?_)
  obtain ⟨F, as, cs, xs, k, wd, ar, ⟨y, r, rfl, ht, hk1, hk2⟩, q⟩ := h
  refine ⟨_, (pss_cons (ps_asg (pe_tup (pa_cons (pe_tup (pa_cons pe_str pa_nil)) (pa_cons pe_non pa_nil))) (pg_tupK K rfl (pgs_cons (pg_name (i := 1) sc_tried.nd rfl (Or.inl rfl)) (pgs_cons (pg_name (i := 2) sc_tried.nd rfl (Or.inl rfl)) pgs_nil))))
  (pss_cons (ps_try_as (i := 3) rfl rfl sc_tried.nd rfl rfl ⟨rfl, by decide, .inl T.g_NoDeed⟩ takes0 (fun W pn xe tk _ => (pss_one (ps_set (i := 2) sc_tried.nd rfl (Or.inl rfl) (pe_callN0S GX_deeds_text (hr.mono (by first | decide | omega)) rfl T.deeds_text.g T.deeds_text.F.kp T.kb_deeds_text_0 (fun σ => passAt tk σ) (pk_cons (pv 0) pk_nil))))) (fun a oe cls d pn hz hf => (pss_one (ps_set (i := 1) sc_tried.nd rfl (Or.inl rfl) (pe_tup (pa_cons pe_str (pa_cons (pe_xf T.xf_NoDeed T.nf_NoDeed hz hf (pv 3)) pa_nil)))))))
  (pss_one (ps_ret (pe_tup (pa_cons (pv 1) (pa_cons (pv 2) pa_nil))))))), ?_⟩
  cases ht with
  | @no y t h1 h2 h3 =>
    refine body_go [some y, none, none, none] (n := 0) rfl rfl wd ar ?_ q
    walk_at "a"
    refine eg_tupD rfl (egs_cons (egs_cons (egs_nil ?_)))
    walk_at "a"
    refine ex_tryAs (tb := fun W => tAsg (tCallN0S 1 (spAX K C (ApDTX T.c_NoDeed)) (fun us ws => us ++ ws) (WE W) (tCons (tVar 0) tNil)) (gName 2)) fun W => ?_
    refine ex_toX ?_
    refine evx_callN0S (fun _ => rfl) ?_
    walk_at "a"
    refine ⟨rfl, calls_free (by show (AV.lt 0 y && true) = true; rw [h3]; rfl) ⟨y, .inr 0, rfl, .no h1 h2 h3, fun s e => (by cases e), fun j e => ?_⟩⟩
    cases e
    refine ⟨T.em_NoDeed_NoDeed, fun a dd => ?_⟩
    walk_at "a"
    refine ev_xf ?_
    walk_at "a"
    refine ⟨_, rfl, ?_⟩
    walk_at "a"
    show Ex K C _ _ _ (tRet (tTup (tCons (tVar 1) (tCons (tVar 2) tNil)))) _
    walk_at "a"
    exact Rt.here (hk2 0 rfl) (Nat.zero_le _) rfl rfl
  | @bad ys bs i h1 h2 h3 h4 =>
    refine body_go [some (.cel 0), none, none, none] (n := 1) rfl rfl wd ar ?_ q
    walk_at "a"
    refine eg_tupD rfl (egs_cons (egs_cons (egs_nil ?_)))
    walk_at "a"
    refine ex_tryAs (tb := fun W => tAsg (tCallN0S 1 (spAX K C (ApDTX T.c_NoDeed)) (fun us ws => us ++ ws) (WE W) (tCons (tVar 0) tNil)) (gName 2)) fun W => ?_
    refine ex_toX ?_
    refine evx_callN0S (fun _ => rfl) ?_
    walk_at "a"
    refine ⟨rfl, calls_cel (ren_a h3) (ltAll_mono (Nat.zero_le 1) h3) ⟨.cel 0, .inr i, rfl, .bad h1 h2 h3 h4, fun s e => (by cases e), fun j e => ?_⟩⟩
    cases e
    simp only [putC, List.map, ren_a h3, List.set, List.append_nil]
    refine ⟨T.em_NoDeed_NoDeed, fun a dd => ?_⟩
    walk_at "a"
    refine ev_xf ?_
    walk_at "a"
    refine ⟨_, rfl, ?_⟩
    walk_at "a"
    show Ex K C _ _ _ (tRet (tTup (tCons (tVar 1) (tCons (tVar 2) tNil)))) _
    walk_at "a"
    exact Rt.here (hk2 i rfl) (Nat.le_refl _) rfl (by show (AV.ltAll 1 ys && true) = true; rw [ltAll_mono (Nat.zero_le 1) h3]; rfl)
  | @ok ds hd hl =>
    refine body_go [some (.cel 0), none, none, none] (n := 1) rfl rfl wd ar ?_ q
    walk_at "a"
    refine eg_tupD rfl (egs_cons (egs_cons (egs_nil ?_)))
    walk_at "a"
    refine ex_tryAs (tb := fun W => tAsg (tCallN0S 1 (spAX K C (ApDTX T.c_NoDeed)) (fun us ws => us ++ ws) (WE W) (tCons (tVar 0) tNil)) (gName 2)) fun W => ?_
    refine ex_toX ?_
    refine evx_callN0S (fun _ => rfl) ?_
    walk_at "a"
    refine ⟨rfl, calls_cel (fun _ => rfl) rfl ⟨.cel 0, .inl _, rfl, .ok hd hl, fun s e => ?_, fun j e => (by cases e)⟩⟩
    cases e
    show Eg K C _ _ (.d (.str (deedsT ds))) [.l ds] _ _
    refine eg_name ?_
    show Ex K C _ _ _ (tRet (tTup (tCons (tVar 1) (tCons (tVar 2) tNil)))) _
    walk_at "a"
    exact Rt.here (hk1 _ rfl) (Nat.le_refl _) rfl rfl
theorem ok_classes (T : Tx K mg) (C : Addr) : FnOk P w K mg base CX0 7 T.classes.a T.classes.fd ["acts"] (spA K C ApClasses) := by
  have GX_deeds_text := okx_deeds_text (P := P) (w := w) (base := base) T C
  refine T.classes.F.ok sc_classes (fun vs H Q E h => spA_len (l := 1) (fun xs cs k ⟨_, _, h, _⟩ => by rw [h]; rfl) h) (fun cdv A outer s H vs Q E hr h => ?_)
  obtain ⟨F, as, cs, xs, k, wd, ar, ⟨y, i, rfl, ht, hk⟩, q⟩ := h
  refine ⟨_, (pss_cons (ps_set (i := 1) sc_classes.nd rfl (Or.inl rfl) (pe_tup pa_nil))
  (pss_cons (ps_try_as (i := 2) rfl rfl sc_classes.nd rfl rfl ⟨rfl, by decide, .inl T.g_TurnError⟩ takes0 (fun W pn xe tk _ => (pss_one (ps_expr (pe_callS GX_deeds_text (hr.mono (by first | decide | omega)) rfl T.deeds_text.g T.deeds_text.F.kp T.deeds_text.b (fun σ => passAt tk σ) (pa_cons (pv 0) pa_nil))))) (fun a oe cls d pn hz hf => (pss_one (ps_set (i := 1) sc_classes.nd rfl (Or.inl rfl) (pe_tup (pa_cons (pe_callB (call_isX hz hf) (by rfl) T.b_isinstance (by decide +kernel) (pa_cons (pv 2) (pa_cons (pe_bltn (v := .ty "ValueError") (by rfl) T.b_ValueError (by decide +kernel) rfl) pa_nil))) (pa_cons (pe_callB (call_isX hz hf) (by rfl) T.b_isinstance (by decide +kernel) (pa_cons (pv 2) (pa_cons (pe_glob (v := .ref T.c_NoDeed) rfl T.g_NoDeed rfl) pa_nil))) (pa_cons (pe_callB (call_isX hz hf) (by rfl) T.b_isinstance (by decide +kernel) (pa_cons (pv 2) (pa_cons (pe_glob (v := .ref T.c_NoLine) rfl T.g_NoLine rfl) pa_nil))) (pa_cons (pe_callB (call_isX hz hf) (by rfl) T.b_isinstance (by decide +kernel) (pa_cons (pv 2) (pa_cons (pe_glob (v := .ref T.c_NoText) rfl T.g_NoText rfl) pa_nil))) pa_nil)))))))))
  (pss_one (ps_ret (pv 1))))), ?_⟩
  cases ht with
  | @no y t h1 h2 h3 =>
    refine body_go [some y, none, none] (n := 0) rfl rfl wd ar ?_ q
    walk_at "a"
    refine ex_tryAs (tb := fun W => tDrop (tCallS (spAX K C (ApDTX T.c_NoDeed)) (WE W) (tCons (tVar 0) tNil))) fun W => ?_
    refine ex_dropX ?_
    refine evx_callS ?_
    walk_at "a"
    refine calls_free (by show (AV.lt 0 y && true) = true; rw [h3]; rfl) ⟨y, .inr 0, rfl, .no h1 h2 h3, fun s e => (by cases e), fun j e => ?_⟩
    cases e
    refine ⟨T.em_NoDeed_TurnError, fun a dd => ?_⟩
    walk_at "a"
    refine on_isXT T.xc_NoDeed T.kv_NoDeed ?_
    walk_at "a"
    refine ev_raw ?_
    walk_at "a"
    refine on_isX T.xc_NoDeed T.ki_NoDeed_NoDeed ?_
    walk_at "a"
    refine ev_raw ?_
    walk_at "a"
    refine on_isX T.xc_NoDeed T.ki_NoDeed_NoLine ?_
    walk_at "a"
    refine ev_raw ?_
    walk_at "a"
    refine on_isX T.xc_NoDeed T.ki_NoDeed_NoText ?_
    walk_at "a"
    show Ex K C 0 _ _ (tRet (tVar 1)) _
    walk_at "a"
    exact Rt.here hk (Nat.zero_le _) rfl rfl
  | @bad ys bs i h1 h2 h3 h4 =>
    refine body_go [some (.cel 0), none, none] (n := 1) rfl rfl wd ar ?_ q
    walk_at "a"
    refine ex_tryAs (tb := fun W => tDrop (tCallS (spAX K C (ApDTX T.c_NoDeed)) (WE W) (tCons (tVar 0) tNil))) fun W => ?_
    refine ex_dropX ?_
    refine evx_callS ?_
    walk_at "a"
    refine calls_cel (ren_a h3) (ltAll_mono (Nat.zero_le 1) h3) ⟨.cel 0, .inr i, rfl, .bad h1 h2 h3 h4, fun s e => (by cases e), fun j e => ?_⟩
    cases e
    simp only [putC, List.map, ren_a h3, List.set, List.append_nil]
    refine ⟨T.em_NoDeed_TurnError, fun a dd => ?_⟩
    walk_at "a"
    refine on_isXT T.xc_NoDeed T.kv_NoDeed ?_
    walk_at "a"
    refine ev_raw ?_
    walk_at "a"
    refine on_isX T.xc_NoDeed T.ki_NoDeed_NoDeed ?_
    walk_at "a"
    refine ev_raw ?_
    walk_at "a"
    refine on_isX T.xc_NoDeed T.ki_NoDeed_NoLine ?_
    walk_at "a"
    refine ev_raw ?_
    walk_at "a"
    refine on_isX T.xc_NoDeed T.ki_NoDeed_NoText ?_
    walk_at "a"
    show Ex K C 1 _ _ (tRet (tVar 1)) _
    walk_at "a"
    exact Rt.here hk (Nat.le_refl _) rfl (by show (AV.ltAll 1 ys && true) = true; rw [ltAll_mono (Nat.zero_le 1) h3]; rfl)
theorem ok_refused (T : Tx K mg) (C : Addr) : FnOk P w K mg base CX0 8 T.refused.a T.refused.fd ["acts", "index"] (spA K C ApRefused) := by
  have G_tried := ok_tried (P := P) (w := w) (base := base) T C
  have G_classes := ok_classes (P := P) (w := w) (base := base) T C
  have G_whole := ok_lwhole (P := P) (w := w) (base := base) T C
  refine T.refused.F.ok sc_refused (fun vs H Q E h => spA_len (l := 2) (fun xs cs k ⟨_, _, h, _⟩ => by rw [h]; rfl) h) (fun cdv A outer s H vs Q E hr h => ?_)
  obtain ⟨F, as, cs, xs, k, wd, ar, ⟨y, i, rfl, ht, hb, hk⟩, q⟩ := h
  refine ⟨_, (pss_cons (ps_set (i := 2) sc_refused.nd rfl (Or.inl rfl) (pe_ifExp (pt_val (pe_callB (call_isDK K) (by rfl) T.b_isinstance (by decide +kernel) (pa_cons (pv 0) (pa_cons (pe_bltn (v := .ty "list") (by rfl) T.b_list (by decide +kernel) rfl) pa_nil)))) (pe_callTy (call_lstK K) (by rfl) T.b_list (by decide +kernel) (pa_cons (pv 0) pa_nil)) (pv 0)))
  (pss_cons (ps_set (i := 3) sc_refused.nd rfl (Or.inl rfl) (pe_ix (ix_tupK K) (pe_call G_tried (hr.mono (by first | decide | omega)) rfl T.tried.g T.tried.F.kp T.tried.b .nil pass0 (pa_cons (pv 0) pa_nil)) pe_int (fun _ _ => rfl)))
  (pss_cons (ps_if (PW.pt (pw_or (pt_cmpR (op_neXK K (hu66 hr)) (pv 0) (pv 2) (nomark _)) (pw_or (pt_cmpR op_ne (pe_ix (ix_tupK K) (pv 3) pe_int (fun _ _ => rfl)) pe_str (nomark _)) (pw_or1 (pt_not (pt_val (pe_call G_whole (hr.mono (by first | decide | omega)) rfl T.whole.g T.whole.F.kp T.whole.b .nil pass0 (pa_cons (pe_ix (ix_tupK K) (pv 3) pe_int (fun _ _ => rfl)) (pa_cons (pv 1) pa_nil)))))))))
  (pss_one (ps_ret pe_bl))
  pss_nil)
  (pss_one (ps_ret (pe_cmpR (op_eqDK K (hu65 hr)) (pe_call G_classes (hr.mono (by first | decide | omega)) rfl T.classes.g T.classes.F.kp T.classes.b .nil pass0 (pa_cons (pv 0) pa_nil)) (pe_tup (pa_cons pe_bl (pa_cons pe_bl (pa_cons pe_bl (pa_cons pe_bl pa_nil))))) (nomark _))))))), ?_⟩
  cases ht with
  | @no y t h1 h2 h3 =>
    have hs : eqSelf y = true := by
      rcases hb with ⟨_, h⟩ | ⟨ys, _, h, _⟩
      · exact h
      · cases h
    have ht : isTy t "list" = false := by unfold isTy; simp [h2]
    refine body_go [some y, some (.d (.int 0)), none, none] (n := 0) rfl rfl wd ar ?_ q
    walk_at "a"
    refine on_isD h1 (by decide) ?_
    rw [ht]
    walk_at "a"
    refine ev_callF ?_
    walk_at "a"
    refine ⟨by show (AV.lt 0 y && true) = true; rw [h3]; rfl, y, .inr 0, rfl, .no h1 h2 h3, fun s e => (by cases e), fun j e => ?_⟩
    cases e
    show Ev K C _ [] _ _
    walk_at "a"
    have rest : Rt 0 k (.d (.bool true)) [] := Rt.here hk (Nat.zero_le _) rfl rfl
    have key : ∀ kk : AV → List Cell → Prop, kk (.d (.bool false)) [] → O2 K C (rNeX K) y y [] kk := fun kk hkk => by
      cases y with
      | d d =>
        have hs : SeqAt.shaped d = true ∧ PyData.eqv d d = true := by simpa [eqSelf] using hs
        exact o_neX (by rfl) (by rfl) hs.1 hs.2 hkk
      | dct => exact o_neX0 hkk
      | _ => simp [eqSelf] at hs
    refine key _ ?_
    walk_at "a"
    refine ev_wholeT ?_
    walk_at "a"
    refine ⟨0, rfl, ?_⟩
    walk_at "a"
    refine ev_callF ?_
    walk_at "a"
    refine ⟨by show (AV.lt 0 y && true) = true; rw [h3]; rfl, y, 0, rfl, .no h1 h2 h3, ?_⟩
    show Ev K C _ [] _ _
    walk_at "a"
    exact rest
  | @bad ys bs i h1 h2 h3 h4 =>
    have hs : ∀ z ∈ ys, eqSelf z = true := by
      rcases hb with ⟨h, _⟩ | ⟨zs, _, h, hz⟩
      · cases h
      · cases h; exact hz
    have rest : Rt 1 k (.d (.bool true)) [.a ys, .a ys] := Rt.cut 1 hk (Nat.le_refl _) rfl (by show (AV.ltAll 1 ys && true) = true; rw [ltAll_mono (Nat.zero_le 1) h3]; rfl)
    refine body_go [some (.cel 0), some (.d (.int i)), none, none] (n := 1) rfl rfl wd ar ?_ q
    have callOk : CallOk [0] [.cel 0] [.a ys] [.cel 0] [.a ys, .a ys] := ⟨by simp, fun i hi => by rw [List.mem_singleton.mp hi]; exact Nat.le_of_ble_eq_true rfl, rfl, rfl, by
      show [some (Cell.a ys)] = [some (Cell.ren _ (.a ys))]
      rw [ren_a h3], by
      show (AV.ltAll 1 ys && true) = true
      rw [ltAll_mono (Nat.zero_le 1) h3]; rfl⟩
    walk_at "a"
    refine on_lstX (xs := ys) (by rfl) ?_
    walk_at "a"
    refine ev_call ?_
    walk_at "a"
    refine ⟨[0], [.cel 0], [.a ys], callOk, .cel 0, .inr i, rfl, .bad h1 h2 h3 h4, fun s e => (by cases e), fun j e => ?_⟩
    cases e
    simp only [putC, List.map, ren_a h3, List.set, List.append_nil]
    walk_at "a"
    refine o_neL (i := 0) (j := 1) (by rfl) (by rfl) hs ?_
    walk_at "a"
    refine ev_wholeT ?_
    walk_at "a"
    refine ⟨i, rfl, ?_⟩
    walk_at "a"
    refine ev_call ?_
    walk_at "a"
    refine ⟨[0], [.cel 0], [.a ys], callOk, .cel 0, i, rfl, .bad h1 h2 h3 h4, ?_⟩
    simp only [putC, List.map, ren_a h3, List.set, List.append_nil]
    walk_at "a"
    exact rest
end
end Y

set_option pp.deepTerms false
set_option pp.deepTerms.threshold 8
/-! # law k12: the whole -/
namespace Y
open PySem L2
local macro_rules | `(tactic| walk_at "a") => `(tactic| repeat (first
  | (with_reducible apply ev_int) | (with_reducible apply ev_str) | (with_reducible apply ev_bl) | (with_reducible apply ev_non) | (with_reducible apply ev_ty)
  | ((with_reducible apply ev_var); · rfl)
  | (with_reducible apply ev_op) | (with_reducible apply ev_un) | (with_reducible apply evs_nil) | (with_reducible apply evs_cons) | (with_reducible apply ev_cb) | (with_reducible apply ev_if)
  | (with_reducible apply et_test) | (with_reducible apply et_B) | (with_reducible apply et_and) | (with_reducible apply et_or) | (with_reducible apply et_not)
  | (with_reducible apply ex_seq) | (with_reducible apply ex_name) | (with_reducible apply ex_to) | (with_reducible apply ex_ret) | (with_reducible apply ex_if) | (with_reducible apply ex_drop) | (with_reducible apply ex_retN) | (with_reducible apply ex_next)
  | (with_reducible apply ex_par) | (with_reducible apply ex_par3) | (with_reducible apply eg_sub) | (with_reducible apply eg_name)
  | (with_reducible apply o_int) | (with_reducible apply o_bl) | (with_reducible apply o1_neg)
  | (with_reducible apply ev_andV) | (with_reducible apply ev_orV) | (with_reducible apply ev_notV)
  | (with_reducible apply ev_sl) | (with_reducible apply eo_part) | (with_reducible apply eo_no) | (with_reducible apply ev_bm) | (with_reducible apply ev_bm0)
  | (with_reducible apply ite_f) | (with_reducible apply ite_t) | (with_reducible apply ev_tupD) | (with_reducible apply ev_chain)
  | ((with_reducible apply o_ixL); (· rfl); (· rfl)) | ((with_reducible apply o_ixT); (· rfl); (· rfl))
  | ((with_reducible apply o_eq); (· rfl); (· rfl); (· rfl)) | ((with_reducible apply o_ne); (· rfl); (· rfl); (· rfl))
  | (with_reducible apply o_isN) | (with_reducible apply o_notN)
  | (with_reducible apply on_int) | (with_reducible apply on_intB) | (with_reducible apply on_max) | (with_reducible apply on_min) | (with_reducible apply on_abs)
  | ((with_reducible apply on_lenL); (· rfl)) | ((with_reducible apply on_lenT); (· rfl)) | ((with_reducible apply on_isD); (· rfl); (· decide))
  | ((with_reducible apply isSub); (· rfl); (· rfl)) | (with_reducible apply isB) | (with_reducible apply isI) | (with_reducible apply is2) | (with_reducible apply is3) | (with_reducible apply isI1) | (with_reducible apply isI2) | (with_reducible apply isT) | (with_reducible apply isL) | (with_reducible apply isScr) | ((with_reducible apply isDs); (· rfl); (· rfl))
  | ((with_reducible apply o_inT); (· rfl); (· rfl); (· decide +kernel); (· decide +kernel)) | ((with_reducible apply o_eqD); (· rfl); (· rfl); (· decide +kernel); (· decide +kernel))
  | ((with_reducible apply iteT'); · first | decide +kernel | rfl) | ((with_reducible apply iteF'); · first | decide +kernel | rfl)))
theorem flat_deeds {ds : List PyData} (h : ∀ d ∈ ds, GoodD d) : Flat 2 (.list ds) := flat_list fun d hd => (h d hd).flat
theorem flat_deedsT {ds : List PyData} (h : ∀ d ∈ ds, GoodD d) : Flat 2 (.tuple ds) := flat_tup fun d hd => (h d hd).flat
theorem good_self {d : PyData} (h : GoodD d) : eqSelf (.d d) = true := by
  show (SeqAt.shaped d && PyData.eqv d d) = true
  rw [h.flat.shaped (by decide), h.flat.eqv]; rfl
/-- a list of deeds with one that is none, and perhaps another one behind -/
structure Worse (pre post : List PyData) (y : AV) (zs : List AV) : Prop where
  pre : ∀ d ∈ pre, GoodD d
  post : ∀ d ∈ post, GoodD d
  y : deedA y = some false ∧ AV.lt 0 y = true ∧ eqSelf y = true
  zs : ∀ z ∈ zs, deedA z = some false ∧ AV.lt 0 z = true ∧ eqSelf z = true
def worse (pre post : List PyData) (y : AV) (zs : List AV) : List AV := pre.map AV.d ++ [y] ++ post.map AV.d ++ zs
def worseB (pre post : List PyData) (zs : List AV) : List Bool := pre.map (fun _ => true) ++ [false] ++ post.map (fun _ => true) ++ zs.map fun _ => false
theorem Worse.map {pre post : List PyData} {y : AV} {zs : List AV} (h : Worse pre post y zs) : (worse pre post y zs).map deedA = (worseB pre post zs).map some := by
  unfold worse worseB
  rw [List.map_append, List.map_append, List.map_append, List.map_append, List.map_append, List.map_append, List.map_map, List.map_map, List.map_map, List.map_map, List.map_map]
  congr 1
  · congr 1
    · congr 1
      · exact List.map_congr_left fun d hd => (h.pre d hd).deedA
      · show [deedA y] = _
        rw [h.y.1]; rfl
    · exact List.map_congr_left fun d hd => (h.post d hd).deedA
  · exact List.map_congr_left fun d hd => (h.zs d hd).1
theorem lt_all {n : Nat} {l : List AV} (h : ∀ x ∈ l, AV.lt n x = true) : AV.ltAll n l = true := by
  induction l with
  | nil => rfl
  | cons a l ih =>
    show (AV.lt n a && AV.ltAll n l) = true
    rw [h a (List.mem_cons_self ..), ih fun x hx => h x (List.mem_cons_of_mem _ hx)]; rfl
theorem Worse.mem {pre post : List PyData} {y : AV} {zs : List AV} (h : Worse pre post y zs) {x : AV} (hx : x ∈ worse pre post y zs) : AV.lt 0 x = true ∧ eqSelf x = true := by
  unfold worse at hx
  rcases List.mem_append.mp hx with hx | hx
  · rcases List.mem_append.mp hx with hx | hx
    · rcases List.mem_append.mp hx with hx | hx
      · obtain ⟨d, hd, rfl⟩ := List.mem_map.mp hx
        exact ⟨rfl, good_self (h.pre d hd)⟩
      · rw [List.mem_singleton.mp hx]; exact h.y.2
    · obtain ⟨d, hd, rfl⟩ := List.mem_map.mp hx
      exact ⟨rfl, good_self (h.post d hd)⟩
  · exact (h.zs x hx).2
theorem worse_first (pre post : List PyData) (zs : List AV) : firstF 0 (worseB pre post zs) = some pre.length := by
  have := firstF_at (bs := worseB pre post zs) (j := 0) (i := pre.length) (fun t ht => by
    unfold worseB
    rw [List.append_assoc, List.append_assoc, List.getElem?_append_left (by rw [List.length_map]; exact ht), List.getElem?_map, List.getElem?_eq_getElem ht]; rfl) (by
    unfold worseB
    rw [List.append_assoc, List.append_assoc, List.getElem?_append_right (by rw [List.length_map]; exact Nat.le_refl _), List.length_map, Nat.sub_self]; rfl)
  rw [this, Nat.zero_add]
theorem worse_len (pre post : List PyData) (y : AV) (zs : List AV) : (worse pre post y zs).length = pre.length + 1 + post.length + zs.length := by
  unfold worse
  rw [List.length_append, List.length_append, List.length_append, List.length_map, List.length_map]; rfl
theorem if_ints {K : PySem.W.Frag} {C : Addr} {E : AEnv} {cs : List Cell} {k : AV → List Cell → Prop} {b : Bool} {a c : Int} (h : ∀ m, m = a ∨ m = c → k (.d (.int m)) cs) : if b = true then Ev K C E cs (tC (.int a)) k else Ev K C E cs (tC (.int c)) k := by
  split
  · exact ev_int (h _ (.inl rfl))
  · exact ev_int (h _ (.inr rfl))
section
variable {P : Program} {w : World} {K : PySem.W.Frag} {mg : Str → Option Value} {base : Heap}
theorem ok_law0 (T : Tx K mg) (C : Addr) : FnOk P w K mg base CX0 12 T.law.a T.law.fd ["script"] (spA K C ApLaw) := by
  have G_well := ok_well (P := P) (w := w) (base := base) T C
  have G_draw := ok_draw (P := P) (w := w) (base := base) T C
  have G_deeds := ok_deeds (P := P) (w := w) (base := base) T C
  have G_no_deed := ok_no_deed (P := P) (w := w) (base := base) T C
  have G_refused := ok_refused (P := P) (w := w) (base := base) T C
  have G_tried := ok_tried (P := P) (w := w) (base := base) T C
  have G_like := ok_likeS (P := P) (w := w) (base := base) T C
  have G_l_deeds_text := ok_ldeeds_text (P := P) (w := w) (base := base) T C
  refine T.law.F.ok sc_law (fun vs H Q E h => spA_len (l := 1) (fun xs cs k ⟨_, h, _⟩ => by rw [h]; rfl) h) (fun cdv A outer s H vs Q E hr h => ?_)
  obtain ⟨F, as, cs, xs, k, wd, ar, ⟨ns, rfl, rfl, hl, hk⟩, q⟩ := h
  refine ⟨_, (pss_cons (ps_for PassesOwn.never rfl (pi_range1 (by rfl) T.b_range (pa_cons (pe_callB (call_max2 rfl) (by rfl) T.b_max (by decide +kernel) (pa_cons pe_int (pa_cons (pe_callB (call_lenK K) (by rfl) T.b_len (by decide +kernel) (pa_cons (pv 0) pa_nil)) pa_nil))) pa_nil)) (pg_name (i := 1) sc_law.nd rfl (Or.inl rfl))
  (pss_cons (ps_set (i := 2) sc_law.nd rfl (Or.inl rfl) (pe_call G_well (hr.mono (by first | decide | omega)) rfl T.well.g T.well.F.kp T.well.b .nil pass0 (pa_cons (pv 0) (pa_cons (pv 1) pa_nil))))
  (pss_cons (ps_par3 (i := 3) (j := 4) (l := 5) rfl sc_law.nd rfl rfl rfl (by decide) (by decide) (by decide) rfl rfl rfl (pa_cons (pe_call G_draw (hr.mono (by first | decide | omega)) rfl T.draw.g T.draw.F.kp T.draw.b .nil pass0 (pa_cons (pv 2) (pa_cons pe_int pa_nil))) (pa_cons (pe_call G_draw (hr.mono (by first | decide | omega)) rfl T.draw.g T.draw.F.kp T.draw.b .nil pass0 (pa_cons (pv 2) (pa_cons pe_int pa_nil))) (pa_cons (pe_call G_deeds (hr.mono (by first | decide | omega)) rfl T.deeds.g T.deeds.F.kp T.deeds.b .nil pass0 (pa_cons (pv 2) (pa_cons (pe_ifExp (pt_cmpR op_eq (pv 1) pe_int (nomark _)) pe_int pe_int) pa_nil))) pa_nil))) rfl)
  (pss_cons (ps_set (i := 6) sc_law.nd rfl (Or.inl rfl) (pe_slice (sl_listK K) (pv 5) po_no (po_some pe_int)))
  (pss_cons (ps_set (i := 7) sc_law.nd rfl (Or.inl rfl) (pe_call G_draw (hr.mono (by first | decide | omega)) rfl T.draw.g T.draw.F.kp T.draw.b .nil pass0 (pa_cons (pv 2) (pa_cons (pe_op op_add (pe_callB (call_lenK K) (by rfl) T.b_len (by decide +kernel) (pa_cons (pv 6) pa_nil)) pe_int) pa_nil))))
  (pss_cons (ps_set (i := 8) sc_law.nd rfl (Or.inl rfl) (pe_op op_cat (pe_op op_cat (pe_slice (sl_listK K) (pv 6) po_no (po_some (pv 7))) (pe_lst (pa_cons (pe_call G_no_deed (hr.mono (by first | decide | omega)) rfl T.no_deed.g T.no_deed.F.kp T.no_deed.b .nil pass0 (pa_cons (pv 4) pa_nil)) pa_nil))) (pe_slice (sl_listK K) (pv 6) (po_some (pv 7)) po_no)))
  (C8.pss_cut (ps_if (pt_cmpR op_eq (pv 3) pe_int (nomark _))
  (pss_one (ps_expr (pe_bmK2 K PySem.F.plainAttrs_list PySem.F.slot_list_append PySem.F.type_list_append mt_append (pv 8) (pa_cons (pe_call G_no_deed (hr.mono (by first | decide | omega)) rfl T.no_deed.g T.no_deed.F.kp T.no_deed.b .nil pass0 (pa_cons (pe_op op_add (pv 4) pe_int) pa_nil)) pa_nil))))
  pss_nil)
  (C8.pss_cut (ps_if (PW.pt (pw_and (pt_cmpR op_lt (pv 3) pe_int (nomark _)) (pw_and1 (pt_not (pt_val (pe_call G_refused (hr.mono (by first | decide | omega)) rfl T.refused.g T.refused.F.kp T.refused.b .nil pass0 (pa_cons (pv 8) (pa_cons (pv 7) pa_nil))))))))
  (pss_one (ps_ret pe_bl))
  pss_nil)
  (C8.pss_cut (ps_if (PW.pt (pw_and (pt_cmpR op_eq (pv 3) pe_int (nomark _)) (pw_and1 (pt_not (pt_val (pe_call G_refused (hr.mono (by first | decide | omega)) rfl T.refused.g T.refused.F.kp T.refused.b .nil pass0 (pa_cons (pe_ix (ix_listK K) (pe_lst (pa_cons pe_non (pa_cons (pe_callTy (call_tupK K) (by rfl) T.b_tuple (by decide +kernel) (pa_cons (pv 5) pa_nil)) (pa_cons pe_str (pa_cons pe_int (pa_cons pe_dnewK (pa_cons (pe_tup (pa_cons pe_str pa_nil)) pa_nil))))))) (pe_op op_mod (pe_callTy call_int1 (by rfl) T.b_int (by decide +kernel) (pa_cons (pv 4) pa_nil)) pe_int) (fun _ _ => rfl)) (pa_cons pe_int pa_nil))))))))
  (pss_one (ps_ret pe_bl))
  pss_nil)
  (pss_one (ps_for PassesOwn.never rfl (pi_range1 (by rfl) T.b_range (pa_cons pe_int pa_nil)) (pg_name (i := 9) sc_law.nd rfl (Or.inl rfl))
  (pss_cons (ps_set (i := 10) sc_law.nd rfl (Or.inl rfl) (pe_callTy (call_lstK K) (by rfl) T.b_list (by decide +kernel) (pa_cons (pv 5) pa_nil)))
  (pss_cons (ps_asg (pe_call G_tried (hr.mono (by first | decide | omega)) rfl T.tried.g T.tried.F.kp T.tried.b .nil pass0 (pa_cons (pv 10) pa_nil)) (pg_tupK K rfl (pgs_cons (pg_name (i := 11) sc_law.nd rfl (Or.inl rfl)) (pgs_cons (pg_name (i := 12) sc_law.nd rfl (Or.inl rfl)) pgs_nil))))
  (pss_one (ps_if (PW.pt (pw_or (pt_cmpR (op_neDK K (hu65 hr)) (pv 11) (pe_tup (pa_cons pe_str pa_nil)) (nomark _)) (pw_or (pt_not (pt_val (pe_call G_like (hr.mono (by first | decide | omega)) rfl T.like.g T.like.F.kp T.like.b .nil pass0 (pa_cons (pv 12) (pa_cons (pe_call G_l_deeds_text (hr.mono (by first | decide | omega)) rfl T.l_deeds_text.g T.l_deeds_text.F.kp T.l_deeds_text.b .nil pass0 (pa_cons (pv 5) pa_nil)) pa_nil))))) (pw_or1 (pt_cmpR (op_neDK K (hu65 hr)) (pv 10) (pv 5) (nomark _))))))
  (pss_one (ps_ret pe_bl))
  pss_nil)))))))))))))))
  (pss_one (ps_ret pe_bl))), ?_⟩
  refine body_go [some (.d (.list (ns.map PyData.int))), none, none, none, none, none, none, none, none, none, none, none, none] (n := 0) rfl rfl wd ar ?_ q
  walk_at "a"
  refine ex_for 0 (Nat.le_refl 0) (ei_rng1 ?_)
  walk_at "a"
  rw [List.length_map]
  refine ⟨by split <;> omega, by split <;> omega, Nat.le_refl 0, fun i E' cs' => E' = [some (.d (.list (ns.map PyData.int))), none, none, none, none, none, none, none, none, none, none, none, none] ∧ cs' = [], ⟨rfl, rfl⟩, fun _ _ _ _ => trivial, ?_, ?_⟩
  · rintro kk y E' cs' hy ⟨rfl, rfl⟩
    obtain ⟨hkk, rfl⟩ := rngA_get hy
    have hkk : kk < 70 := by
      split at hkk <;> omega
    rw [Int.zero_add]
    refine eg_name ?_
    walk_at "a"
    refine ev_well ?_
    walk_at "a"
    refine ⟨ns, kk, rfl, hl, by omega, by omega, fun ws0 hp0 => ?_⟩
    walk_at "a"
    refine ev_draw ?_
    walk_at "a"
    refine ⟨0, _, ws0, 0, rfl, rfl, hp0, by decide, by decide, by decide, fun wy ws1 wy0 wy1 hp1 => ?_⟩
    walk_at "a"
    refine ev_draw ?_
    walk_at "a"
    refine ⟨0, _, ws1, _, rfl, rfl, hp1, by decide, by decide, by decide, fun mo ws2 mo0 mo1 hp2 => ?_⟩
    walk_at "a"
    refine ev_deeds ?_
    walk_at "a"
    refine if_ints fun most hmost => ?_
    walk_at "a"
    refine ⟨0, ws2, most, _, rfl, rfl, hp2, by decide, by omega, by omega, fun ds ws3 hds hdl hp3 => ?_⟩
    have hdl : ds.length ≤ 200 := by omega
    walk_at "a"
    refine os_lst (ds := ds) (by rfl) ?_
    rw [show (some 198 : Option Int) = some ((198 : Nat) : Int) from rfl, cutD_to]
    have hsh : ∀ d ∈ ds.take 198, GoodD d := fun d hd => hds d (List.mem_of_mem_take hd)
    have hshl : (ds.take 198).length ≤ 198 := by rw [List.length_take]; omega
    generalize hS : ds.take 198 = S at hsh hshl
    walk_at "a"
    refine ev_draw ?_
    walk_at "a"
    refine ⟨0, _, ws3, _, rfl, rfl, hp3, by decide, by omega, by omega, fun sp ws4 sp0 sp1 hp4 => ?_⟩
    obtain ⟨m, rfl⟩ : ∃ m : Nat, sp = (m : Int) := ⟨sp.toNat, by omega⟩
    have hm : m ≤ S.length := by omega
    walk_at "a"
    refine os_lst (ds := S) (by rfl) ?_
    rw [cutD_to]
    walk_at "a"
    refine ev_lst ?_
    walk_at "a"
    refine ev_noDeed ?_
    walk_at "a"
    refine ⟨mo, rfl, mo0, fun y hy => ?_⟩
    walk_at "a"
    refine ⟨Nat.le_of_ble_eq_true rfl, ?_⟩
    refine o_catX (xs := (S.take m).map AV.d) (ys := [y]) (by rfl) (by rfl) (by rw [List.length_map, List.length_take]; show _ + 1 ≤ _; omega) ?_
    walk_at "a"
    refine os_lst (ds := S) (by rfl) ?_
    rw [cutD_from]
    refine o_catX (xs := (S.take m).map AV.d ++ [y]) (ys := (S.drop m).map AV.d) (by rfl) (by rfl) (by rw [List.length_append, List.length_map, List.length_map, List.length_take, List.length_drop]; show _ + 1 + _ ≤ _; omega) ?_
    have hW : ∀ zs : List AV, (∀ z ∈ zs, z ∈ NODEEDS) → Worse (S.take m) (S.drop m) y zs := fun zs hz => ⟨fun d hd => hsh d (List.mem_of_mem_take hd), fun d hd => hsh d (List.mem_of_mem_drop hd), nodeeds_at hy, fun z h => nodeeds_at (hz z h)⟩
    have hpl : (S.take m).length = m := by rw [List.length_take]; omega
    have hwl : ∀ zs : List AV, zs.length ≤ 1 → (worse (S.take m) (S.drop m) y zs).length ≤ 300 := fun zs hz => by
      rw [worse_len, List.length_take, List.length_drop]; omega
    rw [show (S.take m).map AV.d ++ [y] ++ (S.drop m).map AV.d = worse (S.take m) (S.drop m) y [] by unfold worse; rw [List.append_nil]]
    walk_at "a"
    refine ex_midC (fun E' cs' => ∃ zs : List AV, zs.length ≤ 1 ∧ (∀ z ∈ zs, z ∈ NODEEDS) ∧ E' = [some (.d (.list (ns.map PyData.int))), some (.d (.int kk)), some (.cel 0), some (.d (.int wy)), some (.d (.int mo)), some (.cel 1), some (.cel 2), some (.d (.int m)), some (.cel 7), none, none, none, none] ∧
      cs' = [.l ws4, .l ds, .l S, .l (S.take m), .a [y], .a ((S.take m).map AV.d ++ [y]), .l (S.drop m), .a (worse (S.take m) (S.drop m) y zs)]) ?_ ?_
    · walk_at "a"
      refine iteB (fun c => ?_) (fun c => ?_)
      · walk_at "a"
        refine ⟨ty_a (by rfl), ?_⟩
        walk_at "a"
        refine ev_noDeed ?_
        walk_at "a"
        refine ⟨mo + 7, rfl, by omega, fun z hz => ?_⟩
        walk_at "a"
        refine om_appendA (i := 7) (ys := worse (S.take m) (S.drop m) y []) (by rfl) (by have := hwl [] (by decide); omega) ?_
        exact Cm.here ⟨[z], Nat.le_of_ble_eq_true rfl, fun x hx => by rw [List.mem_singleton.mp hx]; exact hz, rfl, by unfold worse; rw [List.append_nil]; rfl⟩
      · walk_at "a"
        exact Cm.here ⟨[], by decide, fun x hx => absurd hx List.not_mem_nil, rfl, rfl⟩
    rintro E' cs' ⟨zs, hzl, hzs, rfl, rfl⟩
    have hw := hW zs hzs
    have hwl := hwl zs hzl
    generalize hww : worse (S.take m) (S.drop m) y zs = ww at hwl
    walk_at "a"
    refine ex_midC (fun E' cs' => E' = [some (.d (.list (ns.map PyData.int))), some (.d (.int kk)), some (.cel 0), some (.d (.int wy)), some (.d (.int mo)), some (.cel 1), some (.cel 2), some (.d (.int m)), some (.cel 7), none, none, none, none] ∧
      cs' = [.l ws4, .l ds, .l S, .l (S.take m), .a [y], .a ((S.take m).map AV.d ++ [y]), .l (S.drop m), .a ww]) ?_ ?_
    · walk_at "a"
      refine iteB (fun c => ?_) (fun c => ?_)
      · walk_at "a"
        refine ev_refusedA ?_
        walk_at "a"
        refine ⟨7, ww, worseB (S.take m) (S.drop m) zs, m, rfl, rfl, by rw [← hww]; exact hw.map, by omega, by rw [← hww]; exact lt_all fun x hx => (hw.mem hx).1, by rw [worse_first, hpl], by rw [← hww]; exact fun x hx => (hw.mem hx).2, ?_⟩
        walk_at "a"
        exact Cm.here ⟨rfl, rfl⟩
      · walk_at "a"
        exact Cm.here ⟨rfl, rfl⟩
    rintro E' cs' ⟨rfl, rfl⟩
    walk_at "a"
    refine ex_midC (fun E' cs' => E' = [some (.d (.list (ns.map PyData.int))), none, none, none, none, some (.cel 1), none, none, none, none, none, none, none] ∧ cs' = [.l ws4, .l ds]) ?_ ?_
    · walk_at "a"
      refine iteB (fun c => ?_) (fun c => ?_)
      · walk_at "a"
        refine ev_refusedN ?_
        walk_at "a"
        refine ev_lst ?_
        walk_at "a"
        refine on_tupL (ds := ds) (by rfl) ?_
        walk_at "a"
        refine ev_dct ?_
        walk_at "a"
        refine ⟨Nat.le_of_ble_eq_true rfl, ?_⟩
        walk_at "a"
        refine o_intC (show (0 : Int) < 6 by decide) ?_
        obtain ⟨j, hj⟩ : ∃ j : Nat, mo % 6 = (j : Int) := ⟨(mo % 6).toNat, by have := Int.emod_nonneg mo (show (6 : Int) ≠ 0 by decide); omega⟩
        have hj6 : j < 6 := by have := Int.emod_lt_of_pos mo (show (0 : Int) < 6 by decide); omega
        have key : ∀ z ∈ [AV.d .none, .d (.tuple ds), .d (.str "run"), .d (.int 0), .dct, .d (.tuple [.str "run"])], ∃ t : String, tyA z [] = some t ∧ t ≠ "list" ∧ AV.lt 0 z = true ∧ eqSelf z = true := fun z hz => by
          simp only [List.mem_cons, List.not_mem_nil, or_false] at hz
          rcases hz with rfl | rfl | rfl | rfl | rfl | rfl
          · exact ⟨_, rfl, by decide, rfl, rfl⟩
          · refine ⟨_, rfl, by show ("tuple" : String) ≠ "list"; decide, rfl, ?_⟩
            show (SeqAt.shaped (.tuple ds) && PyData.eqv (.tuple ds) (.tuple ds)) = true
            rw [(flat_deedsT hds).shaped (by decide), (flat_deedsT hds).eqv]; rfl
          · exact ⟨_, rfl, by show ("str" : String) ≠ "list"; decide, rfl, by decide +kernel⟩
          · exact ⟨_, rfl, by show ("int" : String) ≠ "list"; decide, rfl, by decide +kernel⟩
          · exact ⟨_, rfl, by show ("dict" : String) ≠ "list"; decide, rfl, rfl⟩
          · exact ⟨_, rfl, by show ("tuple" : String) ≠ "list"; decide, rfl, by decide +kernel⟩
        have hj6' : j < [AV.d .none, .d (.tuple ds), .d (.str "run"), .d (.int 0), .dct, .d (.tuple [.str "run"])].length := hj6
        obtain ⟨t, k1, k2, k3, k4⟩ := key _ (List.getElem_mem hj6')
        refine o_ixA (ys := [AV.d .none, .d (.tuple ds), .d (.str "run"), .d (.int 0), .dct, .d (.tuple [.str "run"])]) (y := [AV.d .none, .d (.tuple ds), .d (.str "run"), .d (.int 0), .dct, .d (.tuple [.str "run"])][j]) (by rfl) ?_ ?_
        · rw [hj]; exact atI_nat (List.getElem?_eq_getElem hj6')
        walk_at "a"
        refine ⟨_, t, rfl, k1, k2, k3, k4, ?_⟩
        walk_at "a"
        exact Cm.mask [true, false, false, false, false, true, false, false, false, false, false, false, false] 2 rfl (Nat.zero_le _) rfl rfl ⟨rfl, rfl⟩
      · walk_at "a"
        exact Cm.mask [true, false, false, false, false, true, false, false, false, false, false, false, false] 2 rfl (Nat.zero_le _) rfl rfl ⟨rfl, rfl⟩
    rintro E' cs' ⟨rfl, rfl⟩
    walk_at "a"
    have hfd := flat_deeds hds
    refine ex_for 2 (Nat.zero_le _) (ei_rng1 ?_)
    walk_at "a"
    refine ⟨by decide, by decide, Nat.le_of_ble_eq_true rfl, fun i E' cs' => E' = [some (.d (.list (ns.map PyData.int))), none, none, none, none, some (.cel 1), none, none, none, none, none, none, none] ∧ cs' = [.l ws4, .l ds], ⟨rfl, rfl⟩, fun _ _ _ _ => trivial, ?_, ?_⟩
    · rintro i y E' cs' hy ⟨rfl, rfl⟩
      obtain ⟨hi, rfl⟩ := rngA_get hy
      refine eg_name ?_
      walk_at "a"
      refine on_lstL (ds := ds) (by rfl) ?_
      walk_at "a"
      refine ev_triedL ?_
      walk_at "a"
      refine ⟨2, ds, rfl, rfl, hds, by omega, ?_⟩
      refine eg_tupD rfl (egs_cons (egs_cons (egs_nil ?_)))
      walk_at "a"
      refine o_neD (a := .tuple [.str "made"]) (b := .tuple [.str "made"]) (by rfl) (by rfl) (by decide +kernel) (by decide +kernel) ?_
      walk_at "a"
      refine ev_likeS ?_
      walk_at "a"
      refine ev_ldt ?_
      walk_at "a"
      refine ⟨1, ds, rfl, rfl, hds, by omega, ?_⟩
      walk_at "a"
      refine ⟨_, rfl, ?_⟩
      walk_at "a"
      refine o_neD (a := .list ds) (b := .list ds) (by rfl) (by rfl) (hfd.shaped (by decide)) (hfd.shaped (by decide)) ?_
      rw [hfd.eqv]
      walk_at "a"
      exact Cm.mask [true, false, false, false, false, true, false, false, false, false, false, false, false] 2 rfl (Nat.le_refl 2) rfl rfl ⟨rfl, rfl⟩
    · rintro E' cs' ⟨rfl, rfl⟩
      exact Cm.mask [true, false, false, false, false, false, false, false, false, false, false, false, false] 0 rfl (Nat.le_refl 0) rfl rfl ⟨rfl, rfl⟩
  · rintro E' cs' ⟨rfl, rfl⟩
    walk_at "a"
    exact Rt.here hk (Nat.zero_le _) rfl rfl
theorem ok_law (T : Tx K mg) : FnOk P w K mg base CX0 12 T.law.a T.law.fd ["script"] (spLaw K) := law_of (ok_law0 T 0)
end
end Y

namespace Y
open PySem L2
theorem tx_of {K : PySem.W.Frag} {h : Heap} {mg : Str → Option Value} (X : K.In h) (G : h.Ns mainGlobals mg)
    {C_TurnError C_NoDeed C_NoLine C_NoText f_is_whole f_is_label f_is_amount f_is_number f_is_deed f_entry_text f_deeds_text f_NoDeed_init f_well f_draw f_whole f_label f_amount f_number f_deed f_deeds f_l_entry_text f_l_deeds_text f_like f_no_deed f_tried f_classes f_refused f_law : Addr} {kV_is_whole dc_is_whole pm_is_whole cd_is_whole ct_is_whole oc_is_whole kV_is_label dc_is_label pm_is_label cd_is_label ct_is_label oc_is_label kV_is_amount dc_is_amount pm_is_amount cd_is_amount ct_is_amount oc_is_amount kV_is_number dc_is_number pm_is_number cd_is_number ct_is_number oc_is_number kV_is_deed dc_is_deed pm_is_deed cd_is_deed ct_is_deed oc_is_deed kV_entry_text dc_entry_text pm_entry_text cd_entry_text ct_entry_text oc_entry_text kV_deeds_text dc_deeds_text pm_deeds_text cd_deeds_text ct_deeds_text oc_deeds_text kV_NoDeed_init dc_NoDeed_init pm_NoDeed_init cd_NoDeed_init ct_NoDeed_init oc_NoDeed_init kV_well dc_well pm_well cd_well ct_well oc_well kV_draw dc_draw pm_draw cd_draw ct_draw oc_draw kV_whole dc_whole pm_whole cd_whole ct_whole oc_whole kV_label dc_label pm_label cd_label ct_label oc_label kV_amount dc_amount pm_amount cd_amount ct_amount oc_amount kV_number dc_number pm_number cd_number ct_number oc_number kV_deed dc_deed pm_deed cd_deed ct_deed oc_deed kV_deeds dc_deeds pm_deeds cd_deeds ct_deeds oc_deeds kV_l_entry_text dc_l_entry_text pm_l_entry_text cd_l_entry_text ct_l_entry_text oc_l_entry_text kV_l_deeds_text dc_l_deeds_text pm_l_deeds_text cd_l_deeds_text ct_l_deeds_text oc_l_deeds_text kV_like dc_like pm_like cd_like ct_like oc_like kV_no_deed dc_no_deed pm_no_deed cd_no_deed ct_no_deed oc_no_deed kV_tried dc_tried pm_tried cd_tried ct_tried oc_tried kV_classes dc_classes pm_classes cd_classes ct_classes oc_classes kV_refused dc_refused pm_refused cd_refused ct_refused oc_refused kV_law dc_law pm_law cd_law ct_law oc_law : Value} {od_is_whole an_is_whole od_is_label an_is_label od_is_amount an_is_amount od_is_number an_is_number od_is_deed an_is_deed od_entry_text an_entry_text od_deeds_text an_deeds_text od_NoDeed_init an_NoDeed_init od_well an_well od_draw an_draw od_whole an_whole od_label an_label od_amount an_amount od_number an_number od_deed an_deed od_deeds an_deeds od_l_entry_text an_l_entry_text od_l_deeds_text an_l_deeds_text od_like an_like od_no_deed an_no_deed od_tried an_tried od_classes an_classes od_refused an_refused od_law an_law : Option Addr} {sl_is_whole sl_is_label sl_is_amount sl_is_number sl_is_deed sl_entry_text sl_deeds_text sl_NoDeed_init sl_well sl_draw sl_whole sl_label sl_amount sl_number sl_deed sl_deeds sl_l_entry_text sl_l_deeds_text sl_like sl_no_deed sl_tried sl_classes sl_refused sl_law : Array (Option Value)} {tk_MOST_LABEL tk_MOST_AMOUNT tk_MOST_NUMBER tk_NONE : Tok} {nm_NoDeed qq_NoDeed : Str} {NN_NoDeed : Addr} {bs_NoDeed : List Value} {sn_NoDeed : List Str} {sub_NoDeed : List Value} {ab_NoDeed : Bool} {col_NoDeed : Option Bool} {dd_NoDeed : Option Addr} {m0_NoDeed m1_NoDeed m2_NoDeed m3_NoDeed m5_NoDeed : Option Value}
    (cn : PySem.W.specialIn K (.builtin "object.__class__") "__get__" = some (some (.builtin "getset_descriptor.__get__")))
    (ctk : PySem.W.takesIn K (.builtin "object.__class__") = some true)
    (nC_TurnError : PySem.W.nsIn K mainGlobals "TurnError" = some (some (.ref C_TurnError)))
    (nC_NoDeed : PySem.W.nsIn K mainGlobals "NoDeed" = some (some (.ref C_NoDeed)))
    (nC_NoLine : PySem.W.nsIn K mainGlobals "NoLine" = some (some (.ref C_NoLine)))
    (nC_NoText : PySem.W.nsIn K mainGlobals "NoText" = some (some (.ref C_NoText)))
    (a_is_whole : PySem.W.nsIn K mainGlobals "is_whole" = some (some (.ref f_is_whole)))
    (l_is_whole : K.lookup f_is_whole = some ⟨oc_is_whole, od_is_whole, .func (PySem.W.fnOf "is_whole" "is_whole" (defArgs s_is_whole) (defBody s_is_whole) (defScope s_is_whole) .none kV_is_whole dc_is_whole pm_is_whole an_is_whole cd_is_whole ct_is_whole), sl_is_whole⟩)
    (c_is_whole : PySem.W.codeIn K cd_is_whole "is_whole" = true)
    (k_is_whole : PySem.W.keepIn K (.ref f_is_whole) = true)
    (a_is_label : PySem.W.nsIn K mainGlobals "is_label" = some (some (.ref f_is_label)))
    (l_is_label : K.lookup f_is_label = some ⟨oc_is_label, od_is_label, .func (PySem.W.fnOf "is_label" "is_label" (defArgs s_is_label) (defBody s_is_label) (defScope s_is_label) .none kV_is_label dc_is_label pm_is_label an_is_label cd_is_label ct_is_label), sl_is_label⟩)
    (c_is_label : PySem.W.codeIn K cd_is_label "is_label" = true)
    (k_is_label : PySem.W.keepIn K (.ref f_is_label) = true)
    (a_is_amount : PySem.W.nsIn K mainGlobals "is_amount" = some (some (.ref f_is_amount)))
    (l_is_amount : K.lookup f_is_amount = some ⟨oc_is_amount, od_is_amount, .func (PySem.W.fnOf "is_amount" "is_amount" (defArgs s_is_amount) (defBody s_is_amount) (defScope s_is_amount) .none kV_is_amount dc_is_amount pm_is_amount an_is_amount cd_is_amount ct_is_amount), sl_is_amount⟩)
    (c_is_amount : PySem.W.codeIn K cd_is_amount "is_amount" = true)
    (k_is_amount : PySem.W.keepIn K (.ref f_is_amount) = true)
    (a_is_number : PySem.W.nsIn K mainGlobals "is_number" = some (some (.ref f_is_number)))
    (l_is_number : K.lookup f_is_number = some ⟨oc_is_number, od_is_number, .func (PySem.W.fnOf "is_number" "is_number" (defArgs s_is_number) (defBody s_is_number) (defScope s_is_number) .none kV_is_number dc_is_number pm_is_number an_is_number cd_is_number ct_is_number), sl_is_number⟩)
    (c_is_number : PySem.W.codeIn K cd_is_number "is_number" = true)
    (k_is_number : PySem.W.keepIn K (.ref f_is_number) = true)
    (a_is_deed : PySem.W.nsIn K mainGlobals "is_deed" = some (some (.ref f_is_deed)))
    (l_is_deed : K.lookup f_is_deed = some ⟨oc_is_deed, od_is_deed, .func (PySem.W.fnOf "is_deed" "is_deed" (defArgs s_is_deed) (defBody s_is_deed) (defScope s_is_deed) .none kV_is_deed dc_is_deed pm_is_deed an_is_deed cd_is_deed ct_is_deed), sl_is_deed⟩)
    (c_is_deed : PySem.W.codeIn K cd_is_deed "is_deed" = true)
    (k_is_deed : PySem.W.keepIn K (.ref f_is_deed) = true)
    (a_entry_text : PySem.W.nsIn K mainGlobals "entry_text" = some (some (.ref f_entry_text)))
    (l_entry_text : K.lookup f_entry_text = some ⟨oc_entry_text, od_entry_text, .func (PySem.W.fnOf "entry_text" "entry_text" (defArgs s_entry_text) (defBody s_entry_text) (defScope s_entry_text) .none kV_entry_text dc_entry_text pm_entry_text an_entry_text cd_entry_text ct_entry_text), sl_entry_text⟩)
    (c_entry_text : PySem.W.codeIn K cd_entry_text "entry_text" = true)
    (k_entry_text : PySem.W.keepIn K (.ref f_entry_text) = true)
    (a_deeds_text : PySem.W.nsIn K mainGlobals "deeds_text" = some (some (.ref f_deeds_text)))
    (l_deeds_text : K.lookup f_deeds_text = some ⟨oc_deeds_text, od_deeds_text, .func (PySem.W.fnOf "deeds_text" "deeds_text" (defArgs s_deeds_text) (defBody s_deeds_text) (defScope s_deeds_text) .none kV_deeds_text dc_deeds_text pm_deeds_text an_deeds_text cd_deeds_text ct_deeds_text), sl_deeds_text⟩)
    (c_deeds_text : PySem.W.codeIn K cd_deeds_text "deeds_text" = true)
    (k_deeds_text : PySem.W.keepIn K (.ref f_deeds_text) = true)
    (a_NoDeed_init : PySem.W.findIn K (.ref C_NoDeed) "__init__" = some (some (.ref f_NoDeed_init)))
    (i_NoDeed_init : PySem.W.isFn K (.ref f_NoDeed_init) = true)
    (l_NoDeed_init : K.lookup f_NoDeed_init = some ⟨oc_NoDeed_init, od_NoDeed_init, .func (PySem.W.fnOf "__init__" "NoDeed.__init__" (defArgs s_NoDeed_init) (defBody s_NoDeed_init) (defScope s_NoDeed_init) .none kV_NoDeed_init dc_NoDeed_init pm_NoDeed_init an_NoDeed_init cd_NoDeed_init ct_NoDeed_init), sl_NoDeed_init⟩)
    (c_NoDeed_init : PySem.W.codeIn K cd_NoDeed_init "NoDeed.__init__" = true)
    (k_NoDeed_init : PySem.W.keepIn K (.ref f_NoDeed_init) = true)
    (a_well : PySem.W.nsIn K mainGlobals "_law_well" = some (some (.ref f_well)))
    (l_well : K.lookup f_well = some ⟨oc_well, od_well, .func (PySem.W.fnOf "_law_well" "_law_well" (defArgs s_well) (defBody s_well) (defScope s_well) .none kV_well dc_well pm_well an_well cd_well ct_well), sl_well⟩)
    (c_well : PySem.W.codeIn K cd_well "_law_well" = true)
    (k_well : PySem.W.keepIn K (.ref f_well) = true)
    (a_draw : PySem.W.nsIn K mainGlobals "_law_draw" = some (some (.ref f_draw)))
    (l_draw : K.lookup f_draw = some ⟨oc_draw, od_draw, .func (PySem.W.fnOf "_law_draw" "_law_draw" (defArgs s_draw) (defBody s_draw) (defScope s_draw) .none kV_draw dc_draw pm_draw an_draw cd_draw ct_draw), sl_draw⟩)
    (c_draw : PySem.W.codeIn K cd_draw "_law_draw" = true)
    (k_draw : PySem.W.keepIn K (.ref f_draw) = true)
    (a_whole : PySem.W.nsIn K mainGlobals "_law_whole" = some (some (.ref f_whole)))
    (l_whole : K.lookup f_whole = some ⟨oc_whole, od_whole, .func (PySem.W.fnOf "_law_whole" "_law_whole" (defArgs s_whole) (defBody s_whole) (defScope s_whole) .none kV_whole dc_whole pm_whole an_whole cd_whole ct_whole), sl_whole⟩)
    (c_whole : PySem.W.codeIn K cd_whole "_law_whole" = true)
    (k_whole : PySem.W.keepIn K (.ref f_whole) = true)
    (a_label : PySem.W.nsIn K mainGlobals "_law_label" = some (some (.ref f_label)))
    (l_label : K.lookup f_label = some ⟨oc_label, od_label, .func (PySem.W.fnOf "_law_label" "_law_label" (defArgs s_label) (defBody s_label) (defScope s_label) .none kV_label dc_label pm_label an_label cd_label ct_label), sl_label⟩)
    (c_label : PySem.W.codeIn K cd_label "_law_label" = true)
    (k_label : PySem.W.keepIn K (.ref f_label) = true)
    (a_amount : PySem.W.nsIn K mainGlobals "_law_amount" = some (some (.ref f_amount)))
    (l_amount : K.lookup f_amount = some ⟨oc_amount, od_amount, .func (PySem.W.fnOf "_law_amount" "_law_amount" (defArgs s_amount) (defBody s_amount) (defScope s_amount) .none kV_amount dc_amount pm_amount an_amount cd_amount ct_amount), sl_amount⟩)
    (c_amount : PySem.W.codeIn K cd_amount "_law_amount" = true)
    (k_amount : PySem.W.keepIn K (.ref f_amount) = true)
    (a_number : PySem.W.nsIn K mainGlobals "_law_number" = some (some (.ref f_number)))
    (l_number : K.lookup f_number = some ⟨oc_number, od_number, .func (PySem.W.fnOf "_law_number" "_law_number" (defArgs s_number) (defBody s_number) (defScope s_number) .none kV_number dc_number pm_number an_number cd_number ct_number), sl_number⟩)
    (c_number : PySem.W.codeIn K cd_number "_law_number" = true)
    (k_number : PySem.W.keepIn K (.ref f_number) = true)
    (a_deed : PySem.W.nsIn K mainGlobals "_law_deed" = some (some (.ref f_deed)))
    (l_deed : K.lookup f_deed = some ⟨oc_deed, od_deed, .func (PySem.W.fnOf "_law_deed" "_law_deed" (defArgs s_deed) (defBody s_deed) (defScope s_deed) .none kV_deed dc_deed pm_deed an_deed cd_deed ct_deed), sl_deed⟩)
    (c_deed : PySem.W.codeIn K cd_deed "_law_deed" = true)
    (k_deed : PySem.W.keepIn K (.ref f_deed) = true)
    (a_deeds : PySem.W.nsIn K mainGlobals "_law_deeds" = some (some (.ref f_deeds)))
    (l_deeds : K.lookup f_deeds = some ⟨oc_deeds, od_deeds, .func (PySem.W.fnOf "_law_deeds" "_law_deeds" (defArgs s_deeds) (defBody s_deeds) (defScope s_deeds) .none kV_deeds dc_deeds pm_deeds an_deeds cd_deeds ct_deeds), sl_deeds⟩)
    (c_deeds : PySem.W.codeIn K cd_deeds "_law_deeds" = true)
    (k_deeds : PySem.W.keepIn K (.ref f_deeds) = true)
    (a_l_entry_text : PySem.W.nsIn K mainGlobals "_law_entry_text" = some (some (.ref f_l_entry_text)))
    (l_l_entry_text : K.lookup f_l_entry_text = some ⟨oc_l_entry_text, od_l_entry_text, .func (PySem.W.fnOf "_law_entry_text" "_law_entry_text" (defArgs s_l_entry_text) (defBody s_l_entry_text) (defScope s_l_entry_text) .none kV_l_entry_text dc_l_entry_text pm_l_entry_text an_l_entry_text cd_l_entry_text ct_l_entry_text), sl_l_entry_text⟩)
    (c_l_entry_text : PySem.W.codeIn K cd_l_entry_text "_law_entry_text" = true)
    (k_l_entry_text : PySem.W.keepIn K (.ref f_l_entry_text) = true)
    (a_l_deeds_text : PySem.W.nsIn K mainGlobals "_law_deeds_text" = some (some (.ref f_l_deeds_text)))
    (l_l_deeds_text : K.lookup f_l_deeds_text = some ⟨oc_l_deeds_text, od_l_deeds_text, .func (PySem.W.fnOf "_law_deeds_text" "_law_deeds_text" (defArgs s_l_deeds_text) (defBody s_l_deeds_text) (defScope s_l_deeds_text) .none kV_l_deeds_text dc_l_deeds_text pm_l_deeds_text an_l_deeds_text cd_l_deeds_text ct_l_deeds_text), sl_l_deeds_text⟩)
    (c_l_deeds_text : PySem.W.codeIn K cd_l_deeds_text "_law_deeds_text" = true)
    (k_l_deeds_text : PySem.W.keepIn K (.ref f_l_deeds_text) = true)
    (a_like : PySem.W.nsIn K mainGlobals "_law_like" = some (some (.ref f_like)))
    (l_like : K.lookup f_like = some ⟨oc_like, od_like, .func (PySem.W.fnOf "_law_like" "_law_like" (defArgs s_like) (defBody s_like) (defScope s_like) .none kV_like dc_like pm_like an_like cd_like ct_like), sl_like⟩)
    (c_like : PySem.W.codeIn K cd_like "_law_like" = true)
    (k_like : PySem.W.keepIn K (.ref f_like) = true)
    (a_no_deed : PySem.W.nsIn K mainGlobals "_law_no_deed" = some (some (.ref f_no_deed)))
    (l_no_deed : K.lookup f_no_deed = some ⟨oc_no_deed, od_no_deed, .func (PySem.W.fnOf "_law_no_deed" "_law_no_deed" (defArgs s_no_deed) (defBody s_no_deed) (defScope s_no_deed) .none kV_no_deed dc_no_deed pm_no_deed an_no_deed cd_no_deed ct_no_deed), sl_no_deed⟩)
    (c_no_deed : PySem.W.codeIn K cd_no_deed "_law_no_deed" = true)
    (k_no_deed : PySem.W.keepIn K (.ref f_no_deed) = true)
    (a_tried : PySem.W.nsIn K mainGlobals "_law_tried" = some (some (.ref f_tried)))
    (l_tried : K.lookup f_tried = some ⟨oc_tried, od_tried, .func (PySem.W.fnOf "_law_tried" "_law_tried" (defArgs s_tried) (defBody s_tried) (defScope s_tried) .none kV_tried dc_tried pm_tried an_tried cd_tried ct_tried), sl_tried⟩)
    (c_tried : PySem.W.codeIn K cd_tried "_law_tried" = true)
    (k_tried : PySem.W.keepIn K (.ref f_tried) = true)
    (a_classes : PySem.W.nsIn K mainGlobals "_law_classes" = some (some (.ref f_classes)))
    (l_classes : K.lookup f_classes = some ⟨oc_classes, od_classes, .func (PySem.W.fnOf "_law_classes" "_law_classes" (defArgs s_classes) (defBody s_classes) (defScope s_classes) .none kV_classes dc_classes pm_classes an_classes cd_classes ct_classes), sl_classes⟩)
    (c_classes : PySem.W.codeIn K cd_classes "_law_classes" = true)
    (k_classes : PySem.W.keepIn K (.ref f_classes) = true)
    (a_refused : PySem.W.nsIn K mainGlobals "_law_refused" = some (some (.ref f_refused)))
    (l_refused : K.lookup f_refused = some ⟨oc_refused, od_refused, .func (PySem.W.fnOf "_law_refused" "_law_refused" (defArgs s_refused) (defBody s_refused) (defScope s_refused) .none kV_refused dc_refused pm_refused an_refused cd_refused ct_refused), sl_refused⟩)
    (c_refused : PySem.W.codeIn K cd_refused "_law_refused" = true)
    (k_refused : PySem.W.keepIn K (.ref f_refused) = true)
    (a_law : PySem.W.nsIn K mainGlobals "law" = some (some (.ref f_law)))
    (l_law : K.lookup f_law = some ⟨oc_law, od_law, .func (PySem.W.fnOf "law" "law" (defArgs s_law) (defBody s_law) (defScope s_law) .none kV_law dc_law pm_law an_law cd_law ct_law), sl_law⟩)
    (c_law : PySem.W.codeIn K cd_law "law" = true)
    (k_law : PySem.W.keepIn K (.ref f_law) = true)
    (eb_TurnError : PySem.W.subIn K (.ref C_TurnError) (.type "BaseException") = some true)
    (ty_TurnError : PySem.W.typeIn K (.ref C_TurnError) = some (.type "type"))
    (hd_TurnError : PySem.W.hasDictIn K C_TurnError = true)
    (kc_TurnError : PySem.W.keepIn K (.ref C_TurnError) = true)
    (ga_TurnError : PySem.W.findIn K (.ref C_TurnError) "__getattribute__" = some (some (.builtin "BaseException.__getattribute__")))
    (gg_TurnError : PySem.W.findIn K (.ref C_TurnError) "__getattr__" = some none)
    (ha_TurnError : PySem.W.findIn K (.ref C_TurnError) "__class__" = some (some (.builtin "object.__class__")))
    (hm_TurnError : PySem.W.mroIn K C_TurnError (.type "object") = some true)
    (sv_TurnError : PySem.W.subIn K (.ref C_TurnError) (.type "ValueError") = some true)
    (eb_NoDeed : PySem.W.subIn K (.ref C_NoDeed) (.type "BaseException") = some true)
    (ty_NoDeed : PySem.W.typeIn K (.ref C_NoDeed) = some (.type "type"))
    (hd_NoDeed : PySem.W.hasDictIn K C_NoDeed = true)
    (kc_NoDeed : PySem.W.keepIn K (.ref C_NoDeed) = true)
    (ga_NoDeed : PySem.W.findIn K (.ref C_NoDeed) "__getattribute__" = some (some (.builtin "BaseException.__getattribute__")))
    (gg_NoDeed : PySem.W.findIn K (.ref C_NoDeed) "__getattr__" = some none)
    (ha_NoDeed : PySem.W.findIn K (.ref C_NoDeed) "__class__" = some (some (.builtin "object.__class__")))
    (hm_NoDeed : PySem.W.mroIn K C_NoDeed (.type "object") = some true)
    (sv_NoDeed : PySem.W.subIn K (.ref C_NoDeed) (.type "ValueError") = some true)
    (xL_NoDeed : K.lookup C_NoDeed = some (PySem.excClassObj nm_NoDeed qq_NoDeed C_NoDeed NN_NoDeed bs_NoDeed [.ref C_TurnError, .type "ValueError", .type "Exception", .type "BaseException", .type "object"] true sn_NoDeed sub_NoDeed ab_NoDeed col_NoDeed dd_NoDeed m0_NoDeed m1_NoDeed m2_NoDeed m3_NoDeed m5_NoDeed "ValueError.__new__"))
    (sa_NoDeed : PySem.W.findIn K (.ref C_NoDeed) "__setattr__" = some (some (.builtin "object.__setattr__")))
    (nf_NoDeed : PySem.W.findIn K (.ref C_NoDeed) "index" = some none)
    (tt_NoDeed : PySem.W.typeIn K (.ref f_NoDeed_init) = some (.type "function"))
    (eb_NoLine : PySem.W.subIn K (.ref C_NoLine) (.type "BaseException") = some true)
    (ty_NoLine : PySem.W.typeIn K (.ref C_NoLine) = some (.type "type"))
    (hd_NoLine : PySem.W.hasDictIn K C_NoLine = true)
    (kc_NoLine : PySem.W.keepIn K (.ref C_NoLine) = true)
    (ga_NoLine : PySem.W.findIn K (.ref C_NoLine) "__getattribute__" = some (some (.builtin "BaseException.__getattribute__")))
    (gg_NoLine : PySem.W.findIn K (.ref C_NoLine) "__getattr__" = some none)
    (ha_NoLine : PySem.W.findIn K (.ref C_NoLine) "__class__" = some (some (.builtin "object.__class__")))
    (hm_NoLine : PySem.W.mroIn K C_NoLine (.type "object") = some true)
    (sv_NoLine : PySem.W.subIn K (.ref C_NoLine) (.type "ValueError") = some true)
    (eb_NoText : PySem.W.subIn K (.ref C_NoText) (.type "BaseException") = some true)
    (ty_NoText : PySem.W.typeIn K (.ref C_NoText) = some (.type "type"))
    (hd_NoText : PySem.W.hasDictIn K C_NoText = true)
    (kc_NoText : PySem.W.keepIn K (.ref C_NoText) = true)
    (ga_NoText : PySem.W.findIn K (.ref C_NoText) "__getattribute__" = some (some (.builtin "BaseException.__getattribute__")))
    (gg_NoText : PySem.W.findIn K (.ref C_NoText) "__getattr__" = some none)
    (ha_NoText : PySem.W.findIn K (.ref C_NoText) "__class__" = some (some (.builtin "object.__class__")))
    (hm_NoText : PySem.W.mroIn K C_NoText (.type "object") = some true)
    (sv_NoText : PySem.W.subIn K (.ref C_NoText) (.type "ValueError") = some true)
    (sb_TurnError_TurnError : PySem.W.subIn K (.ref C_TurnError) (.ref C_TurnError) = some true)
    (sb_NoDeed_TurnError : PySem.W.subIn K (.ref C_NoDeed) (.ref C_TurnError) = some true)
    (sb_NoDeed_NoDeed : PySem.W.subIn K (.ref C_NoDeed) (.ref C_NoDeed) = some true)
    (sb_NoDeed_NoLine : PySem.W.subIn K (.ref C_NoDeed) (.ref C_NoLine) = some false)
    (sb_NoDeed_NoText : PySem.W.subIn K (.ref C_NoDeed) (.ref C_NoText) = some false)
    (sb_NoLine_NoLine : PySem.W.subIn K (.ref C_NoLine) (.ref C_NoLine) = some true)
    (sb_NoText_NoText : PySem.W.subIn K (.ref C_NoText) (.ref C_NoText) = some true)
    (v_MOST_LABEL : PySem.W.nsIn K mainGlobals "MOST_LABEL" = some (some (.int 999999999999999999999999999999 tk_MOST_LABEL)))
    (v_MOST_AMOUNT : PySem.W.nsIn K mainGlobals "MOST_AMOUNT" = some (some (.int 1000000000000 tk_MOST_AMOUNT)))
    (v_MOST_NUMBER : PySem.W.nsIn K mainGlobals "MOST_NUMBER" = some (some (.int 1000000000 tk_MOST_NUMBER)))
    (v_NONE : PySem.W.nsIn K mainGlobals "NONE" = some (some (.str "none" tk_NONE)))
    (z_len : PySem.W.nsIn K mainGlobals "len" = some none)
    (z_isinstance : PySem.W.nsIn K mainGlobals "isinstance" = some none)
    (z_int : PySem.W.nsIn K mainGlobals "int" = some none)
    (z_bool : PySem.W.nsIn K mainGlobals "bool" = some none)
    (z_str : PySem.W.nsIn K mainGlobals "str" = some none)
    (z_tuple : PySem.W.nsIn K mainGlobals "tuple" = some none)
    (z_list : PySem.W.nsIn K mainGlobals "list" = some none)
    (z_all : PySem.W.nsIn K mainGlobals "all" = some none)
    (z_max : PySem.W.nsIn K mainGlobals "max" = some none)
    (z_range : PySem.W.nsIn K mainGlobals "range" = some none)
    (z_enumerate : PySem.W.nsIn K mainGlobals "enumerate" = some none)
    (z_ValueError : PySem.W.nsIn K mainGlobals "ValueError" = some none) :
    ∃ T : Tx K mg, ∀ (s : Shared) (v : Value), BindsTo s T.law.fd ⟨[v], []⟩ [("script", v)] := ⟨{
    c_TurnError := C_TurnError, g_TurnError := PySem.W.mg_of X G nC_TurnError,
    c_NoDeed := C_NoDeed, g_NoDeed := PySem.W.mg_of X G nC_NoDeed,
    c_NoLine := C_NoLine, g_NoLine := PySem.W.mg_of X G nC_NoLine,
    c_NoText := C_NoText, g_NoText := PySem.W.mg_of X G nC_NoText,
    is_whole := ⟨f_is_whole, _, fun_mk (st := s_is_whole) l_is_whole c_is_whole k_is_whole, PySem.W.mg_of X G a_is_whole, ((fun_mk (st := s_is_whole) l_is_whole c_is_whole k_is_whole).binds (ps := ["thing"]) fun _ _ _ _ _ _ us hl => match us, hl with | [_], _ => rfl)⟩,
    is_label := ⟨f_is_label, _, fun_mk (st := s_is_label) l_is_label c_is_label k_is_label, PySem.W.mg_of X G a_is_label, ((fun_mk (st := s_is_label) l_is_label c_is_label k_is_label).binds (ps := ["thing"]) fun _ _ _ _ _ _ us hl => match us, hl with | [_], _ => rfl)⟩,
    is_amount := ⟨f_is_amount, _, fun_mk (st := s_is_amount) l_is_amount c_is_amount k_is_amount, PySem.W.mg_of X G a_is_amount, ((fun_mk (st := s_is_amount) l_is_amount c_is_amount k_is_amount).binds (ps := ["thing"]) fun _ _ _ _ _ _ us hl => match us, hl with | [_], _ => rfl)⟩,
    is_number := ⟨f_is_number, _, fun_mk (st := s_is_number) l_is_number c_is_number k_is_number, PySem.W.mg_of X G a_is_number, ((fun_mk (st := s_is_number) l_is_number c_is_number k_is_number).binds (ps := ["thing"]) fun _ _ _ _ _ _ us hl => match us, hl with | [_], _ => rfl)⟩,
    is_deed := ⟨f_is_deed, _, fun_mk (st := s_is_deed) l_is_deed c_is_deed k_is_deed, PySem.W.mg_of X G a_is_deed, ((fun_mk (st := s_is_deed) l_is_deed c_is_deed k_is_deed).binds (ps := ["thing"]) fun _ _ _ _ _ _ us hl => match us, hl with | [_], _ => rfl)⟩,
    entry_text := ⟨f_entry_text, _, fun_mk (st := s_entry_text) l_entry_text c_entry_text k_entry_text, PySem.W.mg_of X G a_entry_text, ((fun_mk (st := s_entry_text) l_entry_text c_entry_text k_entry_text).binds (ps := ["entry"]) fun _ _ _ _ _ _ us hl => match us, hl with | [_], _ => rfl)⟩,
    deeds_text := ⟨f_deeds_text, _, fun_mk (st := s_deeds_text) l_deeds_text c_deeds_text k_deeds_text, PySem.W.mg_of X G a_deeds_text, ((fun_mk (st := s_deeds_text) l_deeds_text c_deeds_text k_deeds_text).binds (ps := ["deeds"]) fun _ _ _ _ _ _ us hl => match us, hl with | [_], _ => rfl)⟩,
    NoDeed_init := ⟨f_NoDeed_init, _, fun_mk (st := s_NoDeed_init) l_NoDeed_init c_NoDeed_init k_NoDeed_init, ⟨a_NoDeed_init, i_NoDeed_init, k_NoDeed_init⟩, ((fun_mk (st := s_NoDeed_init) l_NoDeed_init c_NoDeed_init k_NoDeed_init).binds (ps := ["self", "index"]) fun _ _ _ _ _ _ us hl => match us, hl with | [_, _], _ => rfl)⟩,
    well := ⟨f_well, _, fun_mk (st := s_well) l_well c_well k_well, PySem.W.mg_of X G a_well, ((fun_mk (st := s_well) l_well c_well k_well).binds (ps := ["script", "k"]) fun _ _ _ _ _ _ us hl => match us, hl with | [_, _], _ => rfl)⟩,
    draw := ⟨f_draw, _, fun_mk (st := s_draw) l_draw c_draw k_draw, PySem.W.mg_of X G a_draw, ((fun_mk (st := s_draw) l_draw c_draw k_draw).binds (ps := ["well", "many"]) fun _ _ _ _ _ _ us hl => match us, hl with | [_, _], _ => rfl)⟩,
    whole := ⟨f_whole, _, fun_mk (st := s_whole) l_whole c_whole k_whole, PySem.W.mg_of X G a_whole, ((fun_mk (st := s_whole) l_whole c_whole k_whole).binds (ps := ["actual", "expected"]) fun _ _ _ _ _ _ us hl => match us, hl with | [_, _], _ => rfl)⟩,
    label := ⟨f_label, _, fun_mk (st := s_label) l_label c_label k_label, PySem.W.mg_of X G a_label, ((fun_mk (st := s_label) l_label c_label k_label).binds (ps := ["well"]) fun _ _ _ _ _ _ us hl => match us, hl with | [_], _ => rfl)⟩,
    amount := ⟨f_amount, _, fun_mk (st := s_amount) l_amount c_amount k_amount, PySem.W.mg_of X G a_amount, ((fun_mk (st := s_amount) l_amount c_amount k_amount).binds (ps := ["well"]) fun _ _ _ _ _ _ us hl => match us, hl with | [_], _ => rfl)⟩,
    number := ⟨f_number, _, fun_mk (st := s_number) l_number c_number k_number, PySem.W.mg_of X G a_number, ((fun_mk (st := s_number) l_number c_number k_number).binds (ps := ["well"]) fun _ _ _ _ _ _ us hl => match us, hl with | [_], _ => rfl)⟩,
    deed := ⟨f_deed, _, fun_mk (st := s_deed) l_deed c_deed k_deed, PySem.W.mg_of X G a_deed, ((fun_mk (st := s_deed) l_deed c_deed k_deed).binds (ps := ["well"]) fun _ _ _ _ _ _ us hl => match us, hl with | [_], _ => rfl)⟩,
    deeds := ⟨f_deeds, _, fun_mk (st := s_deeds) l_deeds c_deeds k_deeds, PySem.W.mg_of X G a_deeds, ((fun_mk (st := s_deeds) l_deeds c_deeds k_deeds).binds (ps := ["well", "most"]) fun _ _ _ _ _ _ us hl => match us, hl with | [_, _], _ => rfl)⟩,
    l_entry_text := ⟨f_l_entry_text, _, fun_mk (st := s_l_entry_text) l_l_entry_text c_l_entry_text k_l_entry_text, PySem.W.mg_of X G a_l_entry_text, ((fun_mk (st := s_l_entry_text) l_l_entry_text c_l_entry_text k_l_entry_text).binds (ps := ["entry"]) fun _ _ _ _ _ _ us hl => match us, hl with | [_], _ => rfl)⟩,
    l_deeds_text := ⟨f_l_deeds_text, _, fun_mk (st := s_l_deeds_text) l_l_deeds_text c_l_deeds_text k_l_deeds_text, PySem.W.mg_of X G a_l_deeds_text, ((fun_mk (st := s_l_deeds_text) l_l_deeds_text c_l_deeds_text k_l_deeds_text).binds (ps := ["acts"]) fun _ _ _ _ _ _ us hl => match us, hl with | [_], _ => rfl)⟩,
    like := ⟨f_like, _, fun_mk (st := s_like) l_like c_like k_like, PySem.W.mg_of X G a_like, ((fun_mk (st := s_like) l_like c_like k_like).binds (ps := ["actual", "expected"]) fun _ _ _ _ _ _ us hl => match us, hl with | [_, _], _ => rfl)⟩,
    no_deed := ⟨f_no_deed, _, fun_mk (st := s_no_deed) l_no_deed c_no_deed k_no_deed, PySem.W.mg_of X G a_no_deed, ((fun_mk (st := s_no_deed) l_no_deed c_no_deed k_no_deed).binds (ps := ["way"]) fun _ _ _ _ _ _ us hl => match us, hl with | [_], _ => rfl)⟩,
    tried := ⟨f_tried, _, fun_mk (st := s_tried) l_tried c_tried k_tried, PySem.W.mg_of X G a_tried, ((fun_mk (st := s_tried) l_tried c_tried k_tried).binds (ps := ["acts"]) fun _ _ _ _ _ _ us hl => match us, hl with | [_], _ => rfl)⟩,
    classes := ⟨f_classes, _, fun_mk (st := s_classes) l_classes c_classes k_classes, PySem.W.mg_of X G a_classes, ((fun_mk (st := s_classes) l_classes c_classes k_classes).binds (ps := ["acts"]) fun _ _ _ _ _ _ us hl => match us, hl with | [_], _ => rfl)⟩,
    refused := ⟨f_refused, _, fun_mk (st := s_refused) l_refused c_refused k_refused, PySem.W.mg_of X G a_refused, ((fun_mk (st := s_refused) l_refused c_refused k_refused).binds (ps := ["acts", "index"]) fun _ _ _ _ _ _ us hl => match us, hl with | [_, _], _ => rfl)⟩,
    law := ⟨f_law, _, fun_mk (st := s_law) l_law c_law k_law, PySem.W.mg_of X G a_law, ((fun_mk (st := s_law) l_law c_law k_law).binds (ps := ["script"]) fun _ _ _ _ _ _ us hl => match us, hl with | [_], _ => rfl)⟩,
    xf_TurnError := ⟨ga_TurnError, gg_TurnError, eb_TurnError, hd_TurnError⟩,
    xc_TurnError := ⟨ga_TurnError, gg_TurnError, eb_TurnError, hd_TurnError, ha_TurnError, cn, ctk, hm_TurnError⟩,
    kv_TurnError := kit_ve sv_TurnError,
    xf_NoDeed := ⟨ga_NoDeed, gg_NoDeed, eb_NoDeed, hd_NoDeed⟩,
    xc_NoDeed := ⟨ga_NoDeed, gg_NoDeed, eb_NoDeed, hd_NoDeed, ha_NoDeed, cn, ctk, hm_NoDeed⟩,
    kv_NoDeed := kit_ve sv_NoDeed,
    ox_NoDeed := ⟨⟨_, _, _, _, _, _, _, _, _, _, _, _, _, _, _, xL_NoDeed, by first | rfl | decide +kernel⟩, sa_NoDeed, eb_NoDeed, ty_NoDeed, kc_NoDeed⟩,
    nf_NoDeed := nf_NoDeed,
    tt_NoDeed := tt_NoDeed,
    xf_NoLine := ⟨ga_NoLine, gg_NoLine, eb_NoLine, hd_NoLine⟩,
    xc_NoLine := ⟨ga_NoLine, gg_NoLine, eb_NoLine, hd_NoLine, ha_NoLine, cn, ctk, hm_NoLine⟩,
    kv_NoLine := kit_ve sv_NoLine,
    xf_NoText := ⟨ga_NoText, gg_NoText, eb_NoText, hd_NoText⟩,
    xc_NoText := ⟨ga_NoText, gg_NoText, eb_NoText, hd_NoText, ha_NoText, cn, ctk, hm_NoText⟩,
    kv_NoText := kit_ve sv_NoText,
    em_TurnError_TurnError := PySem.W.exm_ref eb_TurnError hd_TurnError ty_TurnError sb_TurnError_TurnError,
    ki_TurnError_TurnError := kit_yes hd_TurnError ty_TurnError sb_TurnError_TurnError,
    em_NoDeed_TurnError := PySem.W.exm_ref eb_TurnError hd_TurnError ty_TurnError sb_NoDeed_TurnError,
    ki_NoDeed_TurnError := kit_yes hd_TurnError ty_TurnError sb_NoDeed_TurnError,
    em_NoDeed_NoDeed := PySem.W.exm_ref eb_NoDeed hd_NoDeed ty_NoDeed sb_NoDeed_NoDeed,
    ki_NoDeed_NoDeed := kit_yes hd_NoDeed ty_NoDeed sb_NoDeed_NoDeed,
    em_NoDeed_NoLine := PySem.W.exm_ref eb_NoLine hd_NoLine ty_NoLine sb_NoDeed_NoLine,
    ki_NoDeed_NoLine := kit_no hd_NoLine ty_NoLine sb_NoDeed_NoDeed sb_NoDeed_NoLine,
    em_NoDeed_NoText := PySem.W.exm_ref eb_NoText hd_NoText ty_NoText sb_NoDeed_NoText,
    ki_NoDeed_NoText := kit_no hd_NoText ty_NoText sb_NoDeed_NoDeed sb_NoDeed_NoText,
    em_NoLine_NoLine := PySem.W.exm_ref eb_NoLine hd_NoLine ty_NoLine sb_NoLine_NoLine,
    ki_NoLine_NoLine := kit_yes hd_NoLine ty_NoLine sb_NoLine_NoLine,
    em_NoText_NoText := PySem.W.exm_ref eb_NoText hd_NoText ty_NoText sb_NoText_NoText,
    ki_NoText_NoText := kit_yes hd_NoText ty_NoText sb_NoText_NoText,
    t_MOST_LABEL := tk_MOST_LABEL, g_MOST_LABEL := PySem.W.mg_of X G v_MOST_LABEL,
    t_MOST_AMOUNT := tk_MOST_AMOUNT, g_MOST_AMOUNT := PySem.W.mg_of X G v_MOST_AMOUNT,
    t_MOST_NUMBER := tk_MOST_NUMBER, g_MOST_NUMBER := PySem.W.mg_of X G v_MOST_NUMBER,
    t_NONE := tk_NONE, g_NONE := PySem.W.mg_of X G v_NONE,
    b_len := PySem.W.mg_none_of X G z_len,
    b_isinstance := PySem.W.mg_none_of X G z_isinstance,
    b_int := PySem.W.mg_none_of X G z_int,
    b_bool := PySem.W.mg_none_of X G z_bool,
    b_str := PySem.W.mg_none_of X G z_str,
    b_tuple := PySem.W.mg_none_of X G z_tuple,
    b_list := PySem.W.mg_none_of X G z_list,
    b_all := PySem.W.mg_none_of X G z_all,
    b_max := PySem.W.mg_none_of X G z_max,
    b_range := PySem.W.mg_none_of X G z_range,
    b_enumerate := PySem.W.mg_none_of X G z_enumerate,
    b_ValueError := PySem.W.mg_none_of X G z_ValueError,
    kb_deeds_text_0 := ⟨fun s us ws _ h1 h2 => match us, ws, h1, h2 with | [], [_], _, _ => .of_eq rfl, fun r1 r2 => r1.append r2⟩ }, fun s v => .of_eq rfl⟩
theorem all_mk {l : PySem.W.OpenLaw} {w : World} {K : PySem.W.Frag} {mg : Str → Option Value} {fa : Addr} (hfa : mg "law" = some (.ref fa)) (h : ∃ T : Tx K mg, ∀ (s : Shared) (v : Value), BindsTo s T.law.fd ⟨[v], []⟩ [("script", v)]) :
    ∃ fd : FuncData, (∀ (s : Shared) (v : Value), BindsTo s fd ⟨[v], []⟩ [("script", v)]) ∧ ∀ base : Heap, K.In base → base.Ns mainGlobals mg → FnOk l.prog w K mg base CX0 12 fa fd ["script"] (spLaw K) := by
  obtain ⟨T, hb⟩ := h
  have e := hfa.symm.trans T.law.g
  cases e
  exact ⟨T.law.fd, hb, fun base _ _ => ok_law T⟩
theorem walk {l : PySem.W.OpenLaw} {q : Program} {loose : List Str} {XP : (Str → Option Value) → Heap → Prop} {YP : World → Heap → Prop} {d : DefRec} {K : Params → PySem.W.Frag} (hn : l.most = some 63) (hdf : d.params.defaults = [])
    (hY : ∀ (w : World) (h : Heap), YP w h → (K w.params).In h)
    (F : ∀ (w : World) (mg : Str → Option Value) (fa : Addr) (h : Heap), (K w.params).In h → h.Ns mainGlobals mg → mg d.name = some (.ref fa) →
      ∃ fd : FuncData, (∀ (s : Shared) (u : Value), BindsTo s fd ⟨[u], []⟩ [("script", u)]) ∧ ∀ base : Heap, (K w.params).In base → base.Ns mainGlobals mg → FnOk l.prog w (K w.params) mg base CX0 12 fa fd ["script"] (spLaw (K w.params))) :
    PySem.W.WalkO q loose XP YP l.row.toRowW d [] (fun f vs => PySem.call f vs) :=
  L2.walk_of (n := 63) (k := 12) (x := "script") (CX := fun _ => CX0) (sp := fun w => spLaw (K w.params)) hn (by decide) hdf ⟨rfl, by decide, by decide⟩ hY F (fun _ _ a ns hl _ hS => ⟨a, ns, rfl, hS, hl, fun _ => rfl⟩) fun _ _ _ _ _ z => z
end Y
open PySem PySem.W PyProof.Rows
set_option maxRecDepth 100000 in
set_option maxHeartbeats 0 in
theorem PySem.Challenge.cw_yearturned_k12_deeds_texts_holds : PySem.Challenge.rw_yearturned_k12_deeds_texts.Holds := by
  w_on; o_law; k_head; (case hw => w_witness2)
  k_fill
  refine Y.walk (l := PySem.Challenge.rw_yearturned_k12_deeds_texts) rfl rfl (fun w h Y => PySem.W.kIn_of Y) ?F
  case F =>
    intro w mg fa h KX G hmg
    refine Y.all_mk hmg ?_
    refine' Y.tx_of KX G ?cn ?ctk ?nC_TurnError ?nC_NoDeed ?nC_NoLine ?nC_NoText ?a_is_whole ?l_is_whole ?c_is_whole ?k_is_whole ?a_is_label ?l_is_label ?c_is_label ?k_is_label ?a_is_amount ?l_is_amount ?c_is_amount ?k_is_amount ?a_is_number ?l_is_number ?c_is_number ?k_is_number ?a_is_deed ?l_is_deed ?c_is_deed ?k_is_deed ?a_entry_text ?l_entry_text ?c_entry_text ?k_entry_text ?a_deeds_text ?l_deeds_text ?c_deeds_text ?k_deeds_text ?a_NoDeed_init ?i_NoDeed_init ?l_NoDeed_init ?c_NoDeed_init ?k_NoDeed_init ?a_well ?l_well ?c_well ?k_well ?a_draw ?l_draw ?c_draw ?k_draw ?a_whole ?l_whole ?c_whole ?k_whole ?a_label ?l_label ?c_label ?k_label ?a_amount ?l_amount ?c_amount ?k_amount ?a_number ?l_number ?c_number ?k_number ?a_deed ?l_deed ?c_deed ?k_deed ?a_deeds ?l_deeds ?c_deeds ?k_deeds ?a_l_entry_text ?l_l_entry_text ?c_l_entry_text ?k_l_entry_text ?a_l_deeds_text ?l_l_deeds_text ?c_l_deeds_text ?k_l_deeds_text ?a_like ?l_like ?c_like ?k_like ?a_no_deed ?l_no_deed ?c_no_deed ?k_no_deed ?a_tried ?l_tried ?c_tried ?k_tried ?a_classes ?l_classes ?c_classes ?k_classes ?a_refused ?l_refused ?c_refused ?k_refused ?a_law ?l_law ?c_law ?k_law ?eb_TurnError ?ty_TurnError ?hd_TurnError ?kc_TurnError ?ga_TurnError ?gg_TurnError ?ha_TurnError ?hm_TurnError ?sv_TurnError ?eb_NoDeed ?ty_NoDeed ?hd_NoDeed ?kc_NoDeed ?ga_NoDeed ?gg_NoDeed ?ha_NoDeed ?hm_NoDeed ?sv_NoDeed ?xL_NoDeed ?sa_NoDeed ?nf_NoDeed ?tt_NoDeed ?eb_NoLine ?ty_NoLine ?hd_NoLine ?kc_NoLine ?ga_NoLine ?gg_NoLine ?ha_NoLine ?hm_NoLine ?sv_NoLine ?eb_NoText ?ty_NoText ?hd_NoText ?kc_NoText ?ga_NoText ?gg_NoText ?ha_NoText ?hm_NoText ?sv_NoText ?sb_TurnError_TurnError ?sb_NoDeed_TurnError ?sb_NoDeed_NoDeed ?sb_NoDeed_NoLine ?sb_NoDeed_NoText ?sb_NoLine_NoLine ?sb_NoText_NoText ?v_MOST_LABEL ?v_MOST_AMOUNT ?v_MOST_NUMBER ?v_NONE ?z_len ?z_isinstance ?z_int ?z_bool ?z_str ?z_tuple ?z_list ?z_all ?z_max ?z_range ?z_enumerate ?z_ValueError
    (case cn => k_is)
    (case ctk => k_is)
    (case nC_TurnError => k_is)
    (case nC_NoDeed => k_is)
    (case nC_NoLine => k_is)
    (case nC_NoText => k_is)
    (case a_is_whole => k_is)
    (case l_is_whole => k_is)
    (case c_is_whole => k_is)
    (case k_is_whole => k_is)
    (case a_is_label => k_is)
    (case l_is_label => k_is)
    (case c_is_label => k_is)
    (case k_is_label => k_is)
    (case a_is_amount => k_is)
    (case l_is_amount => k_is)
    (case c_is_amount => k_is)
    (case k_is_amount => k_is)
    (case a_is_number => k_is)
    (case l_is_number => k_is)
    (case c_is_number => k_is)
    (case k_is_number => k_is)
    (case a_is_deed => k_is)
    (case l_is_deed => k_is)
    (case c_is_deed => k_is)
    (case k_is_deed => k_is)
    (case a_entry_text => k_is)
    (case l_entry_text => k_is)
    (case c_entry_text => k_is)
    (case k_entry_text => k_is)
    (case a_deeds_text => k_is)
    (case l_deeds_text => k_is)
    (case c_deeds_text => k_is)
    (case k_deeds_text => k_is)
    (case a_NoDeed_init => k_is)
    (case i_NoDeed_init => k_is)
    (case l_NoDeed_init => k_is)
    (case c_NoDeed_init => k_is)
    (case k_NoDeed_init => k_is)
    (case a_well => k_is)
    (case l_well => k_is)
    (case c_well => k_is)
    (case k_well => k_is)
    (case a_draw => k_is)
    (case l_draw => k_is)
    (case c_draw => k_is)
    (case k_draw => k_is)
    (case a_whole => k_is)
    (case l_whole => k_is)
    (case c_whole => k_is)
    (case k_whole => k_is)
    (case a_label => k_is)
    (case l_label => k_is)
    (case c_label => k_is)
    (case k_label => k_is)
    (case a_amount => k_is)
    (case l_amount => k_is)
    (case c_amount => k_is)
    (case k_amount => k_is)
    (case a_number => k_is)
    (case l_number => k_is)
    (case c_number => k_is)
    (case k_number => k_is)
    (case a_deed => k_is)
    (case l_deed => k_is)
    (case c_deed => k_is)
    (case k_deed => k_is)
    (case a_deeds => k_is)
    (case l_deeds => k_is)
    (case c_deeds => k_is)
    (case k_deeds => k_is)
    (case a_l_entry_text => k_is)
    (case l_l_entry_text => k_is)
    (case c_l_entry_text => k_is)
    (case k_l_entry_text => k_is)
    (case a_l_deeds_text => k_is)
    (case l_l_deeds_text => k_is)
    (case c_l_deeds_text => k_is)
    (case k_l_deeds_text => k_is)
    (case a_like => k_is)
    (case l_like => k_is)
    (case c_like => k_is)
    (case k_like => k_is)
    (case a_no_deed => k_is)
    (case l_no_deed => k_is)
    (case c_no_deed => k_is)
    (case k_no_deed => k_is)
    (case a_tried => k_is)
    (case l_tried => k_is)
    (case c_tried => k_is)
    (case k_tried => k_is)
    (case a_classes => k_is)
    (case l_classes => k_is)
    (case c_classes => k_is)
    (case k_classes => k_is)
    (case a_refused => k_is)
    (case l_refused => k_is)
    (case c_refused => k_is)
    (case k_refused => k_is)
    (case a_law => k_is)
    (case l_law => k_is)
    (case c_law => k_is)
    (case k_law => k_is)
    (case eb_TurnError => k_is)
    (case ty_TurnError => k_is)
    (case hd_TurnError => k_is)
    (case kc_TurnError => k_is)
    (case ga_TurnError => k_is)
    (case gg_TurnError => k_is)
    (case ha_TurnError => k_is)
    (case hm_TurnError => k_is)
    (case sv_TurnError => k_is)
    (case eb_NoDeed => k_is)
    (case ty_NoDeed => k_is)
    (case hd_NoDeed => k_is)
    (case kc_NoDeed => k_is)
    (case ga_NoDeed => k_is)
    (case gg_NoDeed => k_is)
    (case ha_NoDeed => k_is)
    (case hm_NoDeed => k_is)
    (case sv_NoDeed => k_is)
    (case xL_NoDeed => k_is)
    (case sa_NoDeed => k_is)
    (case nf_NoDeed => k_is)
    (case tt_NoDeed => k_is)
    (case eb_NoLine => k_is)
    (case ty_NoLine => k_is)
    (case hd_NoLine => k_is)
    (case kc_NoLine => k_is)
    (case ga_NoLine => k_is)
    (case gg_NoLine => k_is)
    (case ha_NoLine => k_is)
    (case hm_NoLine => k_is)
    (case sv_NoLine => k_is)
    (case eb_NoText => k_is)
    (case ty_NoText => k_is)
    (case hd_NoText => k_is)
    (case kc_NoText => k_is)
    (case ga_NoText => k_is)
    (case gg_NoText => k_is)
    (case ha_NoText => k_is)
    (case hm_NoText => k_is)
    (case sv_NoText => k_is)
    (case sb_TurnError_TurnError => k_is)
    (case sb_NoDeed_TurnError => k_is)
    (case sb_NoDeed_NoDeed => k_is)
    (case sb_NoDeed_NoLine => k_is)
    (case sb_NoDeed_NoText => k_is)
    (case sb_NoLine_NoLine => k_is)
    (case sb_NoText_NoText => k_is)
    (case v_MOST_LABEL => k_is)
    (case v_MOST_AMOUNT => k_is)
    (case v_MOST_NUMBER => k_is)
    (case v_NONE => k_is)
    (case z_len => k_is)
    (case z_isinstance => k_is)
    (case z_int => k_is)
    (case z_bool => k_is)
    (case z_str => k_is)
    (case z_tuple => k_is)
    (case z_list => k_is)
    (case z_all => k_is)
    (case z_max => k_is)
    (case z_range => k_is)
    (case z_enumerate => k_is)
    (case z_ValueError => k_is)
