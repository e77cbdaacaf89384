import PyProof.Rows.All
import Wide.All
import OpenK.AllK
import Wide.FinOn
import PyProof.EqAt
import PyProof.EqKinds
import PyProof.TupleCall
import KE.GoesMore
import KE.GoesEnum
import HandS.ForMost
import HandS.Wide
import HandS.Codes
import HandS.Style
import HandS.TupAny
import HandS.IsInst
import HandS.Deep
import PySem.Challenge.RW_yearturned_k10_script_texts
set_option Elab.async false
set_option linter.all false
set_option maxRecDepth 100000
set_option maxHeartbeats 4000000
/-! ### rules that the layer lacks -/
namespace YR
open PySem PySem.SeqAt PyProof.Rows
open AutoSeq1 (wpAny_loadPart')
theorem typeCall_enum1 (a : Addr) : True := True.intro
set_option maxHeartbeats 1000000 in
theorem meets_enum_newT (l : Addr) (items : Array Value) :
    Meets (Builtin.«enumerate.__new__» ⟨[.type "enumerate", .ref l], []⟩) (fun _ R s => s.heap.IsTuple l items ∧
      R (.ok (.ret (.ref (s.heap.push { cls := .type "tuple_iterator", data := .fields #[.ref l, .int 0 0] }).objs.size)))
        { s with heap := (s.heap.push { cls := .type "tuple_iterator", data := .fields #[.ref l, .int 0 0] }).push { cls := .type "enumerate", data := .fields #[.none, .bool false, .ref s.heap.objs.size, rawInt 0, .none, .none] } }) :=
  .of_wp fun prog w A R s h => by
    obtain ⟨hp, g, d, tk, os⟩ := s; obtain ⟨h1, h⟩ := h
    have hsub := sub_enumerate
    have q1 : ∀ {A' : Around} {E : Value → Shared → Prop} {Q : Value → Shared → Prop}, Q (.ref hp.objs.size) ⟨hp.push { cls := .type "tuple_iterator", data := .fields #[.ref l, .int 0 0] }, g, d, tk, os⟩ → wpAny (model prog w) A' (pyIter (.ref l)) Q E ⟨hp, g, d, tk, os⟩ :=
      fun q => wpAny_pyIter_tuple (s := ⟨hp, g, d, tk, os⟩) h1 q
    wp_walk using q1
    refine wpAny_stack_any fun st => wpAny_pure ?_
    split
    · rename_i c _ _ _ _ _
      cases (c == Value.type "enumerate")
      · wp_walk using q1
        exact ⟨_, rfl, h⟩
      · wp_walk using q1
        exact ⟨_, rfl, h⟩
    · wp_walk using q1
      exact ⟨_, rfl, h⟩
section
variable {prog : Program} {w : World} {A : Around} {E : Value → Shared → Prop} {s : Shared}
theorem call_enumerate_tuple {l : Addr} {items : Array Value} {Q : Value → Shared → Prop} (hL : s.heap.IsTuple l items)
    (h : ∀ h', IsEnum h' (s.heap.objs.size + 1) s.heap.objs.size 0 .none → h'.IsTupleIter s.heap.objs.size l 0 → h'.objs.size = s.heap.objs.size + 2 →
      (∀ b o, s.heap.get? b = some o → h'.get? b = some o) → Q (.ref (s.heap.objs.size + 1)) { s with heap := h' }) :
    wpAny (model prog w) A (call (.type "enumerate") [.ref l]) Q E s := by
  refine callType_new F.called_enumerate (by decide) (F.typeCall_enumerate_1 _) (F.newCall_enumerate_1 _) (fun obj => F.args_object_init_2 obj _) F.entry_enumerate_new
    (meets_enum_newT l items) ⟨hL, ?_⟩
  have hz : (s.heap.push { cls := .type "tuple_iterator", data := .fields #[.ref l, .int 0 0] }).objs.size = s.heap.objs.size + 1 := Heap.size_push ..
  show _ ∧ _
  rw [hz]
  have he : IsEnum ((s.heap.push { cls := .type "tuple_iterator", data := .fields #[.ref l, .int 0 0] }).push { cls := .type "enumerate", data := .fields #[.none, .bool false, .ref s.heap.objs.size, rawInt 0, .none, .none] }) (s.heap.objs.size + 1) s.heap.objs.size 0 .none := by
    have := Heap.get?_push_size (s.heap.push { cls := .type "tuple_iterator", data := .fields #[.ref l, .int 0 0] }) (o := { cls := .type "enumerate", data := .fields #[.none, .bool false, .ref s.heap.objs.size, rawInt 0, .none, .none] }) rfl
    rw [hz] at this; exact this
  refine ⟨⟨_, he, rfl⟩, h _ he ⟨_, Heap.get?_push_of_some _ (Heap.get?_push_size _ rfl), rfl, rfl⟩ (by rw [Heap.size_push, hz]) fun b o x => Heap.get?_push_of_some _ (Heap.get?_push_of_some _ x)⟩
end
end YR
namespace L2
open PySem PySem.Spec PyProof.Rows
/-! ### ** of great ints -/
def CPowW (i j : Int) : Prop := 0 ≤ j ∧ ((i.natAbs.log2 : Int) + 1) * j ≤ 2 ^ 27
section
variable {X : Cx}
theorem op_powW : OpR X (binaryOp .Pow) (rI CPowW fun i j => .int (i ^ j.toNat)) := opI fun i j _ _ _ _ _ hc q => by
  refine PyProof.Rows.pow_int hc.1 ?_ q
  have h1 : (Builtin.Int.intBits i : Int) ≤ (i.natAbs.log2 : Int) + 1 := by
    unfold Builtin.Int.intBits
    split <;> omega
  exact Int.le_trans (Int.mul_le_mul_of_nonneg_right h1 hc.1) hc.2
end
theorem powW {i j : Int} {a : Nat} (h : i.natAbs < 2 ^ a) (h0 : 0 < a) (hj : 0 ≤ j) (hz : (a : Int) * j ≤ 2 ^ 27) : CPowW i j := by
  refine ⟨hj, ?_⟩
  have x := PySem.Flt.log2_lt_of h0 h
  have y : ((i.natAbs.log2 : Int) + 1) ≤ (a : Int) := by omega
  exact Int.le_trans (Int.mul_le_mul_of_nonneg_right y hj) hz
/-! ### x in a tuple of data -/
section
variable {X : Cx}
def rInTD (K : PySem.W.Frag) : R2 := fun x y H Q => ∃ d ds, Dp K H x d ∧ Dp K H y (.tuple ds) ∧ SeqAt.shaped d = true ∧ SeqAt.shaped (.tuple ds) = true ∧ Q (.bl (ds.any fun z => PyData.eqv z d)) H
def rNotInTD (K : PySem.W.Frag) : R2 := fun x y H Q => ∃ d ds, Dp K H x d ∧ Dp K H y (.tuple ds) ∧ SeqAt.shaped d = true ∧ SeqAt.shaped (.tuple ds) = true ∧ Q (.bl (!ds.any fun z => PyData.eqv z d)) H
theorem op_inTD (hu : X.A.units + 65 < cLine) : OpR X (compareOp .In) (rInTD X.K) := by
  intro pins s σ H x y v u Q I rx ry h
  obtain ⟨d, ds, hd, he, sd, se, q⟩ := h
  obtain ⟨as, r1⟩ := Dp.reads I d x v hd rx
  obtain ⟨bs, r2⟩ := Dp.reads I (.tuple ds) y u he ry
  exact SeqAt.in_tuple_reads r2 r1 (SeqAt.canLay_of_shaped se) (SeqAt.canLay_of_shaped sd) (room_in_shaped sd hu) ⟨.bl _, H, I, rfl, q⟩
theorem op_notInTD (hu : X.A.units + 65 < cLine) : OpR X (compareOp .NotIn) (rNotInTD X.K) := by
  intro pins s σ H x y v u Q I rx ry h
  obtain ⟨d, ds, hd, he, sd, se, q⟩ := h
  obtain ⟨as, r1⟩ := Dp.reads I d x v hd rx
  obtain ⟨bs, r2⟩ := Dp.reads I (.tuple ds) y u he ry
  exact SeqAt.notIn_tuple_reads r2 r1 (SeqAt.canLay_of_shaped se) (SeqAt.canLay_of_shaped sd) (room_in_shaped sd hu) ⟨.bl _, H, I, rfl, q⟩
end
/-! ### enumerate(tuple) -/
def IteT (K : PySem.W.Frag) (a : Addr) : It :=
  ⟨fun i H => ∃ (xs : List V) (x : V), SqT K H a xs ∧ xs[i]? = some x, fun i H v H' => ∃ T x, v = .ref T ∧ H T = none ∧ H' = upd H T (.tup [.int (i : Nat), x]) ∧ ∀ xs, SqT K H a xs → xs[i]? = some x, fun i H => ∃ xs : List V, SqT K H a xs ∧ xs.length = i⟩
theorem turn_enumT {P : Program} {w : World} {K : PySem.W.Frag} {elts : List Expr} {kk : Nat} {tpos : Pos} (a e it : Addr) :
    Turn P w K (.Tuple elts kk tpos) (IteT K a) [e, it] e (fun i h => (∃ old, IsEnum h e it ((i : Nat) : Int) old) ∧ h.IsTupleIter it a i ∧ e ≠ it) where
  mem := by simp
  obj := fun i h st b hb => by
    obtain ⟨⟨old, he⟩, ⟨o, ho, hc, hd⟩, _⟩ := st
    have e' : b = e ∨ b = it := by simpa using hb
    rcases e' with z | z
    · rw [z]; exact ⟨_, he, fun v q => nomatch q⟩
    · rw [z]; exact ⟨o, ho, fun v q => by rw [hd] at q; cases q⟩
  keep := fun i h h' st k => let ⟨⟨old, he⟩, hi, hne⟩ := st; ⟨⟨old, k e (by simp) _ he⟩, hi.at fun o q => k it (by simp) o q, hne⟩
  item := by
    intro X hP hw hK hc i pins s σ H E I hf st hg
    subst hP hw hK
    obtain ⟨⟨old, he⟩, hit, hne⟩ := st
    obtain ⟨xs, x, hq, hx⟩ := hg
    obtain ⟨its, rv, p, hz⟩ := I.tuple hq
    obtain ⟨u, hu, ru⟩ := rv.get hx
    have hel : e < s.heap.objs.size := Heap.lt_size he
    have hil : it < s.heap.objs.size := by obtain ⟨_, q, _⟩ := hit; exact Heap.lt_size q
    have hta : a ≠ it := by
      rintro rfl
      obtain ⟨o1, q1, q2, _⟩ := hit
      obtain ⟨o2, q3, q4, _⟩ := p
      rw [q1] at q3; cases q3
      rw [q2] at q4; simp at q4
    have hea : e ∉ [it, a] := by
      intro hb
      rcases List.mem_cons.mp hb with z | z
      · exact hne z
      · have z' : e = a := by simpa using z
        subst z'
        obtain ⟨o2, q3, q4, _⟩ := p
        rw [he] at q3; cases q3
        simp at q4
    have his : i < its.toArray.size := by
      have := (List.getElem?_eq_some_iff.mp hu).1
      simpa using this
    refine wpAny_pyNext_enum_itemD (Draws.tuple (show X.A.in1.handled = none from I.ok.hd hc) it a hta its.toArray) he ⟨hit, p⟩ his hne hea fun y h' tk hy ho hst hT hsz hk => ?_
    have ey : y = u := by
      have q1 : its.toArray[i]? = some y := hy
      have q2 : its.toArray[i]? = some u := by simpa using hu
      rw [q1] at q2; exact Option.some.inj q2
    subst ey
    refine ⟨_, rfl, wpAny_letOwnedTupleGo_enum (s := { s with heap := h', toks := tk + 1 }) ho fun h'' he' sb => ?_⟩
    have hT2 : h''.get? s.heap.objs.size = some { cls := .type "tuple", data := .seq #[.int i tk, y] } := (sb.2 _ (Nat.ne_of_gt hel)).trans hT
    have new : ObjOk X.prog X.w (upd H s.heap.objs.size (.tup [.int (i : Nat), x])) h'' s.heap.objs.size (.tup [.int (i : Nat), x]) :=
      ⟨by show 2 ≤ sizeLine; decide, [.int i tk, y], .cons ⟨_, rfl⟩ (.cons ru .nil), ⟨_, hT2, rfl, _, rfl⟩⟩
    have I1 : Inv X pins σ (upd H s.heap.objs.size (.tup [.int (i : Nat), x])) { s with heap := h'', toks := tk + 1 } :=
      I.turnedNew (ch := [e, it]) (fun b ob hb q => (sb.2 b (fun z => hb (by simp [z]))).trans (hk b ob (fun z => hb (by simp [z])) (fun z => hb (by simp [z])) q)) hf (Nat.le_refl _) new
    refine ⟨.ref s.heap.objs.size, _, I1, rfl, ⟨_, x, rfl, I.hok.fresh (Nat.le_refl _), rfl, fun ys hy => by rw [I.tuple_inj hy hq]; exact hx⟩, ⟨⟨y, ?_⟩, hst.1.at fun o q => (sb.2 it (Ne.symm hne)).trans q, hne⟩, fun b hb => ?_⟩
    · have e1 : ((i + 1 : Nat) : Int) = (i : Int) + 1 := by omega
      rw [e1]; exact he'
    · have hb' : b < s.heap.objs.size := by
        have e' : b = e ∨ b = it := by simpa using hb
        rcases e' with z | z
        · rw [z]; exact hel
        · rw [z]; exact hil
      rw [upd_ne (Nat.ne_of_lt hb')]
      exact (hf b hb).1
  done := by
    intro X hP hw hK hc i pins s σ H E I hf st hg
    subst hP hw hK
    obtain ⟨⟨old, he⟩, hit, hne⟩ := st
    obtain ⟨xs, hq, hx⟩ := hg
    obtain ⟨its, rv, p, hz⟩ := I.tuple hq
    obtain ⟨f0, f1, f2, f3, f4, f5⟩ := hf it (by simp)
    have hl := rv.length
    have hta : a ≠ it := by
      rintro rfl
      obtain ⟨o1, q1, q2, _⟩ := hit
      obtain ⟨o2, q3, q4, _⟩ := p
      rw [q1] at q3; cases q3
      rw [q2] at q4; simp at q4
    have D := Draws.tuple (prog := X.prog) (w := X.w) (show X.A.in1.handled = none from I.ok.hd hc) it a hta its.toArray
    have hit' : s.heap.IsTupleIter it a its.toArray.size := by
      have z : its.toArray.size = i := by simp; omega
      rw [z]; exact hit
    exact wpAny_pyNext_enum_endD D he ⟨hit', p⟩ fun h' eb => ⟨rfl, I.turned (t' := s.toks) (fun b o hb q => eb b o hb q) f0 f1 f3 f4 f5⟩
  self := fun A i s Q E st h => let ⟨⟨_, he⟩, _⟩ := st; wpAny_pyIter_enum he h
def iEnumT (K : PySem.W.Frag) (ta : TA) : TI := fun σ H R => ta σ H fun vs H1 => ∃ a xs, vs = [.ref a] ∧ SqT K H1 a xs ∧ R (IteT K a) H1
theorem pi_enumT {X : Cx} {e : Expr} {ta : TA} {p pos tpos : Pos} {elts : List Expr} {kk : Nat} (hg : Gl X "enumerate") (hm : X.mg "enumerate" = none) (ha : PA X [e] ta) (hs : starEach [e] X.env = [(false, eval e X.env)] := by rfl) :
    PI X (.Tuple elts kk tpos) (.Call (.Name "enumerate" p) [e] [] pos) (iEnumT X.K ta) := by
  refine ⟨fun pins s σ H R I h => ?_⟩
  refine Call_ (ld_blt I hg hm boot_enumerate (PyProof.Rows.callWith_type1 (thn (ha.run pos pins s σ H _ I h) fun us s1 ⟨vs, H1, I1, r1, q1⟩ => ?_) hs rfl))
  obtain ⟨a, xs, ex, hq, q⟩ := q1
  subst ex
  cases r1 with
  | cons r rr =>
    cases rr
    cases r
    obtain ⟨its, rv, p', hz⟩ := I1.tuple hq
    refine YR.call_enumerate_tuple (show s1.heap.IsTuple a its.toArray from p') fun h' he hit hsz hk => wpAny_pyIter_enum he ?_
    have I2 : Inv X pins σ H1 { s1 with heap := h' } := I1.kept (t' := s1.toks) hk
    refine ⟨s1.heap.objs.size + 1, [s1.heap.objs.size + 1, s1.heap.objs.size], _, _, H1, rfl, I2, turn_enumT a (s1.heap.objs.size + 1) s1.heap.objs.size, ⟨⟨.none, he⟩, hit, Nat.succ_ne_self _⟩, fun b hb => ?_, q⟩
    have e' : b = s1.heap.objs.size + 1 ∨ b = s1.heap.objs.size := by simpa using hb
    have hle : s1.heap.objs.size ≤ b := by
      rcases e' with z | z
      · rw [z]; exact Nat.le_add_right _ _
      · rw [z]; exact Nat.le_refl _
    exact I1.fpOk hle (I1.hok.fresh hle)
theorem for_enumT {K : PySem.W.Frag} {a : Addr} {xs : List V} {g : TG} {tb : TS} {D : Ends} {σ : St} {H : Hp} (Pv : Nat → St → Hp → Prop) (h0 : Pv 0 σ H) (hl : ∀ i σ H, i ≤ xs.length → Pv i σ H → SqT K H a xs)
    (hs : ∀ i x T σ H, xs[i]? = some x → Pv i σ H → H T = none → g (.ref T) σ (upd H T (.tup [.int (i : Nat), x])) fun σ2 H2 => tb { D with nx := Pv (i + 1), ct := Pv (i + 1), bk := D.nx } σ2 H2) (hd : ∀ σ H, Pv xs.length σ H → D.nx σ H) :
    ∃ W : Nat → Nat → St → Hp → Prop, (∃ m, W 0 m σ H) ∧ ∀ i m σ H, W i m σ H →
      ((IteT K a).stop i H ∧ D.nx σ H) ∨ ((IteT K a).go i H ∧ ∃ N : St → Hp → Prop, (∀ σ' H', N σ' H' → ∃ m', m' < m ∧ W (i + 1) m' σ' H') ∧ ∀ x H', (IteT K a).yld i H x H' → g x σ H' fun σ2 H2 => tb { D with nx := N, ct := N, bk := D.nx } σ2 H2) := by
  refine ⟨fun i m σ H => m = xs.length - i ∧ i ≤ xs.length ∧ Pv i σ H, ⟨xs.length, by simp, Nat.zero_le _, h0⟩, ?_⟩
  rintro i m σ H ⟨rfl, hi, p⟩
  have q := hl i σ H hi p
  by_cases hlt : i < xs.length
  · refine .inr ⟨⟨xs, xs[i], q, by simp [hlt]⟩, Pv (i + 1), fun σ' H' p' => ⟨xs.length - (i + 1), by omega, rfl, hlt, p'⟩, fun x H' y => ?_⟩
    obtain ⟨T, x', rfl, hT, rfl, hx⟩ := y
    exact hs i x' T σ H (hx xs q) p hT
  · have e : i = xs.length := by omega
    subst e
    exact .inl ⟨⟨xs, q, rfl⟩, hd σ H p⟩
/-! ### len(o), o[i], x in o by the class's own defs -/
section
variable {X : Cx} {CX : CXT} {k : Nat} {f C : Addr} {fd : FuncData} {ps : List Str} {sp : Sp} {E : XK}
theorem run_in1 {pins : List (Addr × Obj)} {σ : St} {H : Hp} {s : Shared} {Q : VK} {us : List Value} {vs : List V} (F : FnOk X.prog X.w X.K X.mg X.base CX k f fd ps sp) (hr : Room (k + 1) X.A) (hb : Binds X.K fd ps []) (hx : Passes CX X E)
    (I : Inv X pins σ H s) (r : Vals vs us) (h : sp vs H Q E) : wpAny (model X.prog X.w) X.A.in1 (call (.ref f) us) (EP X pins σ Q) X.xe s := by
  have hl : us.length = ps.length := by rw [← r.length]; exact F.len _ _ _ _ h
  refine wpAny_call (codeAny_mono (F.run X.A.in1 X.stack s H ⟨us, []⟩ us vs Q E hr.in1 I.env0.in1 (by have q := hb s us I.kIn (by simpa using hl); simpa using q) r h) fun r s' hq => ?_)
  cases r with
  | error e => exact hx pins σ H s e s' I hq
  | ok fl =>
    cases fl with
    | ret u => exact I.after hq
    | next => exact False.elim hq
    | brk => exact False.elim hq
    | cont => exact False.elim hq
theorem ins_at {pins : List (Addr × Obj)} {σ : St} {H : Hp} {s : Shared} {a dx : Addr} {fs : List (Str × V)} (I : Inv X pins σ H s) (e : H a = some (.ins C dx fs)) : ∃ od, PySem.W.InstAt s.heap a (PySem.W.instObj C dx) C (some od) := by
  obtain ⟨mA, O, _⟩ := ins_get I.hok e
  obtain ⟨od, J, _⟩ := O.look
  exact ⟨od, J⟩
/-- what a class says of one of its special defs -/
structure Spc (K : PySem.W.Frag) (C : Addr) (m : Str) (f : Addr) : Prop where
  at_ : PySem.W.findIn K (.ref C) m = some (some (.ref f))
  fn : PySem.W.isFn K (.ref f) = true
def rLenO (C : Addr) (sp : Sp) (E : XK) : List V → Hp → VK → Prop := fun xs H Q => ∃ a dx fs, xs = [.ref a] ∧ H a = some (.ins C dx fs) ∧ sp [.ref a] H (fun v H' => ∃ n : Int, v = .int n ∧ 0 ≤ n ∧ n < 2 ^ 63 ∧ Q (.int n) H') E
theorem call_lenO (hs : Spc X.K C "__len__" f) (F : FnOk X.prog X.w X.K X.mg X.base CX k f fd ps sp) (hr : Room (k + 1) X.A) (hb : Binds X.K fd ps []) (hx : Passes CX X E) : CallR X (.builtin "len") (rLenO C sp E) := by
  intro pins s σ H xs us Q I r h
  obtain ⟨a, dx, fs, rfl, e, h⟩ := h
  obtain ⟨u, rfl, ru⟩ := vals1 r
  cases ru
  obtain ⟨od, J⟩ := ins_at I e
  obtain ⟨m, F0⟩ := I.fr
  refine PySem.W.len_K F0 I.ok.mod.kin J hs.at_ hs.fn (wpAny_mono (run_in1 F hr hb hx I (vs := [.ref a]) (.cons rfl .nil) h) (fun v s' q => ?_) fun _ _ z => z)
  obtain ⟨v', H', I', rv, n, rfl, h0, h1, q⟩ := q
  obtain ⟨t, rfl⟩ := rv
  exact ⟨⟨h0, h1⟩, .int n, H', I'.tok _, ⟨_, rfl⟩, q⟩
theorem op_inO (hs : Spc X.K C "__contains__" f) (F : FnOk X.prog X.w X.K X.mg X.base CX k f fd ps sp) (hr : Room k X.A) (hb : Binds X.K fd ps []) (hx : Passes CX X E) :
    OpR X (compareOp .In) (fun x y H Q => ∃ a dx fs, y = .ref a ∧ H a = some (.ins C dx fs) ∧ sp [.ref a, x] H (fun v H' => ∃ b, v = .bl b ∧ Q (.bl b) H') E) := by
  intro pins s σ H x y v u Q I rx ry h
  obtain ⟨a, dx, fs, rfl, e, h⟩ := h
  cases ry
  obtain ⟨od, J⟩ := ins_at I e
  obtain ⟨m, F0⟩ := I.fr
  refine PySem.W.in_K F0 I.ok.mod.kin J hs.at_ hs.fn (wpAny_mono (run_fn F hr hb .nil hx I (vs := [.ref a, x]) (us := [.ref a, v]) (.cons rfl (.cons rx .nil)) h) (fun v s' q => ?_) fun _ _ z => z)
  obtain ⟨v', H', I', rv, b, rfl, q⟩ := q
  cases rv
  exact wpAny_truthy_bool ⟨.bl b, H', I', rfl, q⟩
def rIxO (C : Addr) (sp : Sp) (E : XK) : R2 := fun x y H Q => ∃ a dx fs, x = .ref a ∧ H a = some (.ins C dx fs) ∧ sp [.ref a, y] H Q E
theorem pe_ixO {a b : Expr} {ta tb : TE} {pos : Pos} (hs : Spc X.K C "__getitem__" f) (hf : PySem.W.fnIn X.K f = true) (F : FnOk X.prog X.w X.K X.mg X.base CX k f fd ps sp) (hr : Room (k + 1) X.A) (hb : Binds X.K fd ps []) (hx : Passes CX X E)
    (ha : PE X a ta) (hb' : PE X b tb) (hsl : ∀ o i, subscripted b true o i = runValue (.builtin "lifetime.subscript" ⟨[o, i], []⟩)) : PE X (.Subscript a b pos) (tOp (rIxO C sp E) ta tb) := by
  refine ⟨fun pins s σ H Q I h => ?_⟩
  refine Subscript_ (binT ha hb' I h fun v u s2 x y H2 I2 rx ry q => ?_)
  obtain ⟨o, dx, fs, rfl, e, h⟩ := q
  cases rx
  obtain ⟨od, J⟩ := ins_at I2 e
  obtain ⟨m, F0⟩ := I2.fr
  exact PySem.W.sub_K F0 I2.ok.mod.kin J hs.at_ hf hs.fn (run_in1 F hr hb hx I2 (vs := [.ref o, y]) (us := [.ref o, u]) (.cons rfl (.cons ry .nil)) h) (hsl _ _)
/-- the program's own def stands there -/
theorem Fun.fnIn {K : PySem.W.Frag} {x qual : Str} {st : Stmt} {f : Addr} {fd : FuncData} (F : Fun K x qual st f fd) : PySem.W.fnIn K f = true := by
  obtain ⟨oc, od, kV, doc, pm, an, cdv, ct, osl, rfl, lk, hcd⟩ := F.ex
  unfold PySem.W.fnIn
  rw [lk] <;> rfl
end
end L2

namespace L2
open PySem PySem.Spec PyProof.Rows
theorem hu65 {k : Nat} {A : Around} (hr : Room k A) : A.units + 65 < cLine := by have := hr.un; omega
structure InsI (K : PySem.W.Frag) (C : Addr) : Prop where
  cl : Cls K C
  ha : PySem.W.findIn K (.ref C) "__class__" = some (some (.builtin "object.__class__"))
  hn : PySem.W.specialIn K (.builtin "object.__class__") "__get__" = some (some (.builtin "getset_descriptor.__get__"))
  htk : PySem.W.takesIn K (.builtin "object.__class__") = some true
  hm : PySem.W.mroIn K C (.type "object") = some true
theorem kit_self {K : PySem.W.Frag} {C : Addr} : PySem.W.kitOne K (.ref C) (.ref C) = some true := by
  unfold PySem.W.kitOne
  rw [if_pos (by simp)]
theorem InsI.ty {K : PySem.W.Frag} {H : Hp} {a C dx : Addr} {fs : List (Str × V)} (i : InsI K C) (e : H a = some (.ins C dx fs)) : TyX K H (.ref a) (.ref C) := .base (.ins e i.cl i.ha i.hn i.htk i.hm)
/-! ### heaps that have grown; one list changed -/
section
variable {K : PySem.W.Frag} {H H' H1 H2 : Hp} {a p : Addr} {o u : HO} {xs ys : List V} {v : V} {d : PyData} {ds : List PyData}
theorem Same.new (h : H p = none) : Same H (upd H p o) := fun b w e => by rw [upd_ne (ne_of_none e h)]; exact e
theorem Same.add (s : Same H H1) (h : H1 p = none) : Same H (upd H1 p o) := s.trans (Same.new h)
theorem Same.mut (s : Same H H1) (h : H p = none) : Same H (upd H1 p o) := fun b w e => by rw [upd_ne (ne_of_none e h)]; exact s b w e
theorem Same.rd (s : Same H H') (h : Rd H a u) : Rd H' a u := by
  rcases h with h | ⟨o, h⟩
  · exact .inl (s _ _ h)
  · exact .inr ⟨o, s _ _ h⟩
theorem Same.sqT (s : Same H H') (h : SqT K H a xs) : SqT K H' a xs := by
  rcases h with h | h
  · exact .inl (s.rd h)
  · exact .inr h
mutual
theorem Same.dp (s : Same H H') : ∀ {d : PyData} {v : V}, Dp K H v d → Dp K H' v d
  | _, _, .non => .non
  | _, _, .bl b => .bl b
  | _, _, .int i => .int i
  | _, _, .str x => .str x
  | _, _, .lst h1 h2 => .lst (s.seq h1) (Same.dpAll s h2)
  | _, _, .tup h1 h2 => .tup (s.sqT h1) (Same.dpAll s h2)
theorem Same.dpAll (s : Same H H') : ∀ {ds : List PyData} {vs : List V}, DpAll K H vs ds → DpAll K H' vs ds
  | _, _, .nil => .nil
  | _, _, .cons h1 h2 => .cons (Same.dp s h1) (Same.dpAll s h2)
end
/-! no lists within -/
mutual
def imm : PyData → Bool
  | .tuple xs => immAll xs
  | .list _ => false
  | .dict _ => false
  | _ => true
def immAll : List PyData → Bool
  | [] => true
  | d :: ds => imm d && immAll ds
end
/-- the tuples stand -/
def Tups (H H' : Hp) : Prop := (∀ a xs, H a = some (.tup xs) → H' a = some (.tup xs)) ∧ ∀ a o xs, H a = some (.frz o (.tup xs)) → H' a = some (.frz o (.tup xs))
theorem Tups.refl (H : Hp) : Tups H H := ⟨fun _ _ h => h, fun _ _ _ h => h⟩
theorem Tups.trans (a : Tups H H1) (b : Tups H1 H2) : Tups H H2 := ⟨fun x y h => b.1 x y (a.1 x y h), fun x y z h => b.2 x y z (a.2 x y z h)⟩
theorem Same.tups (s : Same H H') : Tups H H' := ⟨fun a xs h => s _ _ h, fun a o xs h => s _ _ h⟩
theorem Tups.mut (h : Mut (H p)) : Tups H (upd H p o) := by
  refine ⟨fun b xs e => ?_, fun b u xs e => ?_⟩
  · rw [upd_ne]
    · exact e
    · rintro rfl; rw [e] at h; exact h
  · rw [upd_ne]
    · exact e
    · rintro rfl; rw [e] at h; exact h
theorem Tups.sqT (s : Tups H H') (h : SqT K H a xs) : SqT K H' a xs := by
  rcases h with (h | ⟨o, h⟩) | h
  · exact .inl (.inl (s.1 _ _ h))
  · exact .inl (.inr ⟨o, s.2 _ _ _ h⟩)
  · exact .inr h
mutual
theorem Tups.dp (s : Tups H H') : ∀ {d : PyData} {v : V}, imm d = true → Dp K H v d → Dp K H' v d
  | _, _, _, .non => .non
  | _, _, _, .bl b => .bl b
  | _, _, _, .int i => .int i
  | _, _, _, .str x => .str x
  | _, _, q, .lst h1 h2 => by simp [imm] at q
  | _, _, q, .tup h1 h2 => .tup (s.sqT h1) (Tups.dpAll s (by simpa [imm] using q) h2)
theorem Tups.dpAll (s : Tups H H') : ∀ {ds : List PyData} {vs : List V}, immAll ds = true → DpAll K H vs ds → DpAll K H' vs ds
  | _, _, _, .nil => .nil
  | _, _, q, .cons h1 h2 => .cons (Tups.dp s (by simp only [immAll, Bool.and_eq_true] at q; exact q.1) h1) (Tups.dpAll s (by simp only [immAll, Bool.and_eq_true] at q; exact q.2) h2)
end
/-- all but p stands as it stood, and the tuples -/
structure But (p : Addr) (H H' : Hp) : Prop where
  keep : ∀ b o, H b = some o → b ≠ p → H' b = some o
  tups : Tups H H'
theorem But.refl (p : Addr) (H : Hp) : But p H H := ⟨fun _ _ h _ => h, Tups.refl H⟩
theorem But.trans (a : But p H H1) (b : But p H1 H2) : But p H H2 := ⟨fun x y h n => b.keep x y (a.keep x y h n) n, a.tups.trans b.tups⟩
theorem Same.but (s : Same H H') : But p H H' := ⟨fun b o h _ => s b o h, s.tups⟩
theorem But.mut (h : Mut (H p)) : But p H (upd H p o) := ⟨fun b u e n => by rw [upd_ne n]; exact e, Tups.mut h⟩
theorem But.new {f : Addr} (b : But p H H1) (h : H f = none) (hm : H1 f = none ∨ Mut (H1 f)) : But p H (upd H1 f o) :=
  ⟨fun c u e n => by rw [upd_ne (ne_of_none e h)]; exact b.keep c u e n, b.tups.trans (hm.elim (fun h => (Same.new h).tups) Tups.mut)⟩
theorem But.free (b : But p H H1) (hp : p ≠ a) (h : H1 a = none) : H a = none := by
  cases e : H a with
  | none => rfl
  | some o => rw [b.keep a o e (Ne.symm hp)] at h; cases h
theorem But.same (s : Same H H1) (b : But p H1 H2) (h : H p = none) : Same H H2 := fun a o e => b.keep a o (s a o e) (ne_of_none e h)
theorem But.dp (b : But p H H') (hi : imm d = true) (h : Dp K H v d) : Dp K H' v d := b.tups.dp hi h
theorem But.dpAll {vs : List V} (b : But p H H') (hi : immAll ds = true) (h : DpAll K H vs ds) : DpAll K H' vs ds := b.tups.dpAll hi h
/-! ### data -/
theorem Dp.int_inv {i : Int} (h : Dp K H v (.int i)) : v = .int i := by cases h; rfl
theorem Dp.str_inv {i : Str} (h : Dp K H v (.str i)) : v = .str i := by cases h; rfl
theorem Dp.bl_inv {i : Bool} (h : Dp K H v (.bool i)) : v = .bl i := by cases h; rfl
theorem Dp.non_inv (h : Dp K H v .none) : v = .non := by cases h; rfl
theorem Dp.tup_inv (h : Dp K H v (.tuple ds)) : ∃ a xs, v = .ref a ∧ SqT K H a xs ∧ DpAll K H xs ds := by
  cases h with
  | tup h1 h2 => exact ⟨_, _, rfl, h1, h2⟩
theorem Dp.lst_inv (h : Dp K H v (.list ds)) : ∃ a xs, v = .ref a ∧ SqL K H a xs ∧ DpAll K H xs ds := by
  cases h with
  | lst h1 h2 => exact ⟨_, _, rfl, h1, h2⟩
theorem DpAll.length : ∀ {xs : List V} {ds : List PyData}, DpAll K H xs ds → xs.length = ds.length
  | _, _, .nil => rfl
  | _, _, .cons _ h => by rw [List.length_cons, List.length_cons, DpAll.length h]
theorem DpAll.get : ∀ {xs : List V} {ds : List PyData} {i : Nat} {d : PyData}, DpAll K H xs ds → ds[i]? = some d → ∃ v, xs[i]? = some v ∧ Dp K H v d
  | _, _, _, _, .nil, e => by simp at e
  | _, _, 0, _, .cons h _, e => by simp at e; subst e; exact ⟨_, rfl, h⟩
  | _, _, i + 1, d, .cons _ t, e => by
    obtain ⟨v, h1, h2⟩ := DpAll.get (i := i) (d := d) t (by simpa using e)
    exact ⟨v, by simpa using h1, h2⟩
theorem DpAll.get' : ∀ {xs : List V} {ds : List PyData} {i : Nat} {v : V}, DpAll K H xs ds → xs[i]? = some v → ∃ d, ds[i]? = some d ∧ Dp K H v d
  | _, _, _, _, .nil, e => by simp at e
  | _, _, 0, _, .cons h _, e => by simp at e; subst e; exact ⟨_, rfl, h⟩
  | _, _, i + 1, v, .cons _ t, e => by
    obtain ⟨d, h1, h2⟩ := DpAll.get' (i := i) (v := v) t (by simpa using e)
    exact ⟨d, by simpa using h1, h2⟩
theorem DpAll.append : ∀ {xs ys : List V} {ds es : List PyData}, DpAll K H xs ds → DpAll K H ys es → DpAll K H (xs ++ ys) (ds ++ es)
  | _, _, _, _, .nil, h => h
  | _, _, _, _, .cons h t, h' => .cons h (DpAll.append t h')
theorem DpAll.take : ∀ {xs : List V} {ds : List PyData} (n : Nat), DpAll K H xs ds → DpAll K H (xs.take n) (ds.take n)
  | _, _, 0, _ => .nil
  | _, _, _ + 1, .nil => .nil
  | _, _, n + 1, .cons r t => .cons r (DpAll.take n t)
theorem DpAll.drop : ∀ {xs : List V} {ds : List PyData} (n : Nat), DpAll K H xs ds → DpAll K H (xs.drop n) (ds.drop n)
  | _, _, 0, r => r
  | _, _, _ + 1, .nil => .nil
  | _, _, n + 1, .cons _ t => DpAll.drop n t
theorem DpAll.one (h : Dp K H v d) : DpAll K H [v] [d] := .cons h .nil
theorem DpAll.inv1 (h : DpAll K H xs [d]) : ∃ v, xs = [v] ∧ Dp K H v d := by
  cases h with
  | cons h t => cases t; exact ⟨_, rfl, h⟩
theorem Dp.tupOf (h : H a = some (.tup xs)) (hd : DpAll K H xs ds) : Dp K H (.ref a) (.tuple ds) := .tup (SqT.of h) hd
theorem Dp.lstOf (h : H a = some (.lst xs)) (hd : DpAll K H xs ds) : Dp K H (.ref a) (.list ds) := .lst (SqL.of h) hd
/-! ### types of data -/
def tyD : PyData → String
  | .none => "NoneType"
  | .bool _ => "bool"
  | .int _ => "int"
  | .str _ => "str"
  | .list _ => "list"
  | .tuple _ => "tuple"
  | .dict _ => "dict"
theorem Dp.ty (h : Dp K H v d) : TyX K H v (.type (tyD d)) := by
  cases h with
  | non => exact .base .non
  | bl b => exact .base (.bl b)
  | int i => exact .base (.int i)
  | str x => exact .base (.str x)
  | lst h1 h2 =>
    rcases h1 with (h1 | ⟨o, h1⟩) | ⟨o, its, n, h1, h3, _⟩
    · exact .base (.lst h1)
    · exact .base (.frz h1)
    · exact .kList h1 h3
  | tup h1 h2 =>
    rcases h1 with (h1 | ⟨o, h1⟩) | ⟨o, its, n, h1, h3, _⟩
    · exact .base (.tup h1)
    · exact .fTuple h1
    · exact .kTuple h1 h3
/-- isinstance of a built-in type, by names -/
def isTy (t c : String) : Bool := t == c || (t == "bool" && c == "int")
theorem kit_tab : ∀ t ∈ ["NoneType", "bool", "int", "str", "list", "tuple", "dict"], ∀ c ∈ ["bool", "int", "str", "list", "tuple", "dict"], kitB t c = some (isTy t c) := by decide +kernel
theorem tyD_mem (d : PyData) : tyD d ∈ ["NoneType", "bool", "int", "str", "list", "tuple", "dict"] := by cases d <;> simp [tyD]
theorem kit_d (d : PyData) {c : String} (h : c ∈ ["bool", "int", "str", "list", "tuple", "dict"]) : PySem.W.kitOne K (.type (tyD d)) (.type c) = some (isTy (tyD d) c) := kit_ty (kit_tab _ (tyD_mem d) _ h)
theorem kit_t {t c : String} (ht : t ∈ ["NoneType", "bool", "int", "str", "list", "tuple", "dict"]) (h : c ∈ ["bool", "int", "str", "list", "tuple", "dict"]) : PySem.W.kitOne K (.type t) (.type c) = some (isTy t c) := kit_ty (kit_tab _ ht _ h)
end
section
variable {K : PySem.W.Frag} {H : Hp} {v : V}
theorem TyX.int_inv (h : TyX K H v (.type "int")) : ∃ i, v = .int i := by
  generalize e : Value.type "int" = t at h
  cases h with
  | base h => cases h <;> first | exact ⟨_, rfl⟩ | (simp at e)
  | _ => simp at e
end
/-! ### isinstance of data -/
section
variable {X : Cx}
/-- isinstance(x, T): T a built-in type's name; x a datum, or a thing of a known type -/
def rIsD (K : PySem.W.Frag) : List V → Hp → VK → Prop := fun xs H Q => ∃ (x : V) (t c : String), xs = [x, .ty c] ∧ TyX K H x (.type t) ∧ t ∈ ["NoneType", "bool", "int", "str", "list", "tuple", "dict"] ∧ c ∈ ["bool", "int", "str", "list", "tuple", "dict"] ∧ Q (.bl (isTy t c)) H
theorem call_isD : CallR X (.builtin "isinstance") (rIsD X.K) := by
  intro pins s σ H xs us Q I r h
  obtain ⟨x, t, c, rfl, ty, ht, hc, q⟩ := h
  exact call_isi pins s σ H _ us Q I r ⟨x, .ty c, .type t, .type c, isTy t c, rfl, .ty c, ty, kit_t ht hc, q⟩
end
section
variable {X : Cx}
def rIsTD (K : PySem.W.Frag) : List V → Hp → VK → Prop := fun xs H Q => ∃ (x : V) (tp : Addr) (cs : List String) (t : String), xs = [x, .ref tp] ∧ H tp = some (.tup (cs.map V.ty)) ∧ TyX K H x (.type t) ∧ t ∈ ["NoneType", "bool", "int", "str", "list", "tuple", "dict"] ∧
  (∀ c ∈ cs, c ∈ ["bool", "int", "str", "list", "tuple", "dict"]) ∧ Q (.bl (cs.any (isTy t))) H
theorem kitAny_t {K : PySem.W.Frag} {t : String} (ht : t ∈ ["NoneType", "bool", "int", "str", "list", "tuple", "dict"]) : ∀ {cs : List String}, (∀ c ∈ cs, c ∈ ["bool", "int", "str", "list", "tuple", "dict"]) → PySem.W.kitAny K (.type t) (cs.map Value.type) = some (cs.any (isTy t))
  | [], _ => rfl
  | c :: cs, h => by
    rw [List.map_cons, List.any_cons]
    refine kitAny_cons (kit_t ht (h c (by simp))) (fun e => ?_) fun e => by rw [e, Bool.true_or]
    rw [e, Bool.false_or]
    exact kitAny_t ht fun x hx => h x (List.mem_cons_of_mem c hx)
theorem clsv_map : ∀ cs : List String, Paired ClsV (cs.map V.ty) (cs.map Value.type)
  | [] => .nil
  | c :: cs => .cons (.ty c) (clsv_map cs)
theorem call_isTDK (K : PySem.W.Frag) (hK : X.K = K := by rfl) : CallR X (.builtin "isinstance") (rIsTD K) := by
  subst hK
  intro pins s σ H xs us Q I r h
  obtain ⟨x, tp, cs, t, rfl, hp, ty, ht, hc, q⟩ := h
  exact call_isiT pins s σ H _ us Q I r ⟨x, tp, _, .type t, _, _, rfl, hp, clsv_map cs, ty, kitAny_t ht hc, q⟩
end
/-! ### the rules with the written part named -/
section
variable {X : Cx} {a b e o : Expr} {ta tb te to : TE} {pos : Pos}
theorem ix_listK (K : PySem.W.Frag) (hK : X.K = K := by rfl) : IxR X (rIxL K) := by subst hK; exact ix_list
theorem ix_tupK (K : PySem.W.Frag) (hK : X.K = K := by rfl) : IxR X (rIxT K) := by subst hK; exact ix_tup
theorem ix_seqK (K : PySem.W.Frag) (hK : X.K = K := by rfl) : IxR X (rIx K) := by subst hK; exact ix_seq
theorem sl_listK (K : PySem.W.Frag) (hK : X.K = K := by rfl) : SlR X (rSlL K) := by subst hK; exact sl_list
theorem sl_tupK (K : PySem.W.Frag) (hK : X.K = K := by rfl) : SlR X (rSlA K) := by subst hK; exact sl_tupA
theorem op_catK (K : PySem.W.Frag) (hK : X.K = K := by rfl) : OpR X (binaryOp .Add) (rCatA K) := by subst hK; exact op_catA
theorem op_eqDK (K : PySem.W.Frag) (hu : X.A.units + 65 < cLine) (hK : X.K = K := by rfl) : OpR X (compareOp .Eq) (rEqD K) := by subst hK; exact op_eqD (by omega)
theorem op_neDK (K : PySem.W.Frag) (hu : X.A.units + 65 < cLine) (hK : X.K = K := by rfl) : OpR X (compareOp .NotEq) (rNeD K) := by subst hK; exact op_neD (by omega)
theorem op_inTDK (K : PySem.W.Frag) (hu : X.A.units + 65 < cLine) (hK : X.K = K := by rfl) : OpR X (compareOp .In) (rInTD K) := by subst hK; exact op_inTD hu
theorem op_notInTDK (K : PySem.W.Frag) (hu : X.A.units + 65 < cLine) (hK : X.K = K := by rfl) : OpR X (compareOp .NotIn) (rNotInTD K) := by subst hK; exact op_notInTD hu
theorem op_inDK (K : PySem.W.Frag) (hu : X.A.units + 65 < cLine) (hK : X.K = K := by rfl) : OpR X (compareOp .In) (rInD K) := by subst hK; exact op_inD hu
theorem op_notInDK (K : PySem.W.Frag) (hu : X.A.units + 65 < cLine) (hK : X.K = K := by rfl) : OpR X (compareOp .NotIn) (rNotInD K) := by subst hK; exact op_notInD hu
theorem op_in_seqK (K : PySem.W.Frag) (hK : X.K = K := by rfl) : OpR X (compareOp .In) (rIn K false) := by subst hK; exact op_in_seq
theorem op_notIn_seqK (K : PySem.W.Frag) (hK : X.K = K := by rfl) : OpR X (compareOp .NotIn) (rIn K true) := by subst hK; exact op_notIn_seq
def rLen (K : PySem.W.Frag) : List V → Hp → VK → Prop := fun xs H Q => ∃ x n, xs = [x] ∧ LenV K x H n ∧ Q (.int n) H
theorem call_lenK (K : PySem.W.Frag) (hK : X.K = K := by rfl) : CallR X (.builtin "len") (rLen K) := by subst hK; exact call_len
theorem call_isDK (K : PySem.W.Frag) (hK : X.K = K := by rfl) : CallR X (.builtin "isinstance") (rIsD K) := by subst hK; exact call_isD
theorem call_isiK1 (K : PySem.W.Frag) (hK : X.K = K := by rfl) : CallR X (.builtin "isinstance") (rIsi K) := by subst hK; exact call_isi
theorem call_isiTK (K : PySem.W.Frag) (hK : X.K = K := by rfl) : CallR X (.builtin "isinstance") (rIsiT K) := by subst hK; exact call_isiT
def rTupOf (K : PySem.W.Frag) : List V → Hp → VK → Prop := fun xs H Q => ∃ p ys, xs = [.ref p] ∧ ((SqL K H p ys ∧ ∀ l, H l = none → Q (.ref l) (upd H l (.tup ys))) ∨ (SqT K H p ys ∧ Q (.ref p) H))
theorem call_tupK (K : PySem.W.Frag) (hK : X.K = K := by rfl) : CallR X (.type "tuple") (rTupOf K) := by subst hK; exact call_tuple_of
def rLstOf (K : PySem.W.Frag) : List V → Hp → VK → Prop := fun xs H Q => ∃ p ys, xs = [.ref p] ∧ (SqL K H p ys ∨ SqT K H p ys) ∧ ∀ l, H l = none → Q (.ref l) (upd H l (.lst ys))
theorem call_lstK (K : PySem.W.Frag) (hK : X.K = K := by rfl) : CallR X (.type "list") (rLstOf K) := by subst hK; exact call_list_of
theorem cr_allK (K : PySem.W.Frag) (hc : X.calm = true) (hK : X.K = K := by rfl) : CallR X (.builtin "all") (rAll K) := by subst hK; exact cr_all hc
theorem cr_anyK (K : PySem.W.Frag) (hc : X.calm = true) (hK : X.K = K := by rfl) : CallR X (.builtin "any") (rAny K) := by subst hK; exact cr_any hc
theorem cr_sumK (K : PySem.W.Frag) (hc : X.calm = true) (hK : X.K = K := by rfl) : CallR X (.builtin "sum") (rSum K) := by subst hK; exact cr_sum hc
theorem pi_listK (K : PySem.W.Frag) {tg l : Expr} {tl : TE} (hl : PE X l tl) (hK : X.K = K := by rfl) : PI X tg l (iList K tl) := by subst hK; exact pi_list hl
theorem pi_tupK (K : PySem.W.Frag) {tg l : Expr} {tl : TE} (hl : PE X l tl) (hK : X.K = K := by rfl) : PI X tg l (iTup K tl) := by subst hK; exact pi_tup hl
theorem pg_tupK (K : PySem.W.Frag) {es : List Expr} {k : Nat} {t : TGs} {n : Nat} (hc : X.calm = true) (h : PGs X es t)
    (hn : (assignEach es X.env).length = n := by rfl) (hst : (assignEach es X.env).findIdx? (·.1) = none := by rfl) (hK : X.K = K := by rfl) : PG X (.Tuple es k pos) (gTup K n t) := by subst hK; exact pg_tup hc h hn hst
theorem pe_fldK (K : PySem.W.Frag) {f : Str} (he : PE X e ta) (hb : attributeBase e f X.env (eval e X.env) = eval e X.env) (hK : X.K = K := by rfl) : PE X (.Attribute e f pos) (tFld K ta f) := by subst hK; exact pe_fld he hb
theorem ps_fldK (K : PySem.W.Frag) {value : Expr} {tv : TE} {f : Str} {pos' : Pos} (ha : PE X o ta) (hv : PE X value tv) (hs : swapsWith value (some (.Attribute o f pos')) pos.line X.env = pure false) (hK : X.K = K := by rfl) : PS X (.Assign [.Attribute o f pos'] value pos) (sFld K ta tv f) := by
  subst hK; exact ps_fld ha hv hs
theorem pe_bmK (K : PySem.W.Frag) {es : List Expr} {t : TA} {name : Str} {apos cpos : Pos} {T id : String} {r : V → List V → Hp → VK → Prop} (pa : PlainAttrs T) (slot : Slot T name id) (hty : typeOf (.builtin id) = pure (.type "method_descriptor")) (hm : MtR X id r) (ho : PE X o to) (ha : PA X (e :: es) t)
    (hK : X.K = K := by rfl) (h : PE X o to → PA X (e :: es) t → PE X (.Call (.Attribute o name apos) (e :: es) [] cpos) (tBM X.K T r to t) := by intro h1 h2; exact pe_bm (by assumption) (by assumption) (by assumption) (by assumption) h1 h2) : PE X (.Call (.Attribute o name apos) (e :: es) [] cpos) (tBM K T r to t) := by
  subst hK; exact h ho ha
end
end L2

namespace L2
open PySem PySem.Spec PyProof.Rows
/-! ### what a reading evaluates to, as data -/
theorem line_of {n : Nat} (h : n ≤ 100000) : n ≤ sizeLine := Nat.le_trans h (by decide)
theorem line_lt {n : Nat} (h : n < 100000) : n < sizeLine := Nat.lt_of_lt_of_le h (by decide)
def Gv (K : PySem.W.Frag) (te : TE) (σ : St) (H : Hp) (d : PyData) : Prop := ∀ H1, Same H H1 → ∀ Q : VK, (∀ v H2, Same H1 H2 → Dp K H2 v d → Q v H2) → te σ H1 Q
def Gs (K : PySem.W.Frag) (ta : TA) (σ : St) (H : Hp) (ds : List PyData) : Prop := ∀ H1, Same H H1 → ∀ Q : List V → Hp → Prop, (∀ vs H2, Same H1 H2 → DpAll K H2 vs ds → Q vs H2) → ta σ H1 Q
/-- a list of its own: new -/
def Gl1 (K : PySem.W.Frag) (te : TE) (σ : St) (H : Hp) (ds : List PyData) : Prop := ∀ H1, Same H H1 → ∀ Q : VK, (∀ p xs H2, H1 p = none → Same H1 H2 → H2 p = some (.lst xs) → DpAll K H2 xs ds → Q (.ref p) H2) → te σ H1 Q
/-- a test -/
def Gb (tt : TT) (σ : St) (H : Hp) (b : Bool) : Prop := ∀ H1, Same H H1 → ∀ Q : Bool → Hp → Prop, (∀ H2, Same H1 H2 → Q b H2) → tt σ H1 Q
section
variable {K : PySem.W.Frag} {σ : St} {H H' : Hp} {ta tb te : TE} {tas : TA} {x y z v : V} {d d1 d2 : PyData} {ds : List PyData}
theorem Gv.mono (h : Gv K te σ H d) (s : Same H H') : Gv K te σ H' d := fun H1 s1 Q q => h H1 (s.trans s1) Q q
theorem Gs.mono (h : Gs K tas σ H ds) (s : Same H H') : Gs K tas σ H' ds := fun H1 s1 Q q => h H1 (s.trans s1) Q q
theorem gv_var {i : Nat} (h : σ[i]? = some (some v)) (hd : Dp K H v d) : Gv K (tVar i) σ H d := fun H1 s1 Q q => ⟨v, h, q v H1 (Same.refl H1) (s1.dp hd)⟩
theorem gv_varI {i : Nat} {n : Int} (h : σ[i]? = some (some (.int n))) : Gv K (tVar i) σ H (.int n) := gv_var h (.int n)
theorem gv_varS {i : Nat} {n : Str} (h : σ[i]? = some (some (.str n))) : Gv K (tVar i) σ H (.str n) := gv_var h (.str n)
theorem gv_varB {i : Nat} {n : Bool} (h : σ[i]? = some (some (.bl n))) : Gv K (tVar i) σ H (.bool n) := gv_var h (.bl n)
theorem gv_varN {i : Nat} (h : σ[i]? = some (some .non)) : Gv K (tVar i) σ H .none := gv_var h .non
theorem gv_c (hd : ∀ H, Dp K H v d) : Gv K (tC v) σ H d := fun H1 _ Q q => q v H1 (Same.refl H1) (hd H1)
theorem gv_int {i : Int} : Gv K (tC (.int i)) σ H (.int i) := gv_c fun _ => .int i
theorem gv_str {i : Str} : Gv K (tC (.str i)) σ H (.str i) := gv_c fun _ => .str i
theorem gv_bl {i : Bool} : Gv K (tC (.bl i)) σ H (.bool i) := gv_c fun _ => .bl i
theorem gv_non : Gv K (tC .non) σ H .none := gv_c fun _ => .non
theorem gs_nil : Gs K tNil σ H [] := fun H1 _ Q q => q [] H1 (Same.refl H1) .nil
theorem gs_cons (h1 : Gv K te σ H d) (h2 : Gs K tas σ H ds) : Gs K (tCons te tas) σ H (d :: ds) := fun H1 s1 Q q =>
  h1 H1 s1 _ fun v H2 s2 hv => h2 H2 (s1.trans s2) _ fun vs H3 s3 hvs => q (v :: vs) H3 (s2.trans s3) (.cons (s3.dp hv) hvs)
theorem gv_tup (h : Gs K tas σ H ds) (hl : ds.length ≤ 100000) : Gv K (tTup tas) σ H (.tuple ds) := fun H1 s1 Q q =>
  h H1 s1 _ fun vs H2 s2 hvs => ⟨line_of (by rw [hvs.length]; exact hl), fun p hp => q (.ref p) _ (s2.add hp) (.tupOf upd_same ((Same.new hp).dpAll hvs))⟩
theorem gv_lst (h : Gs K tas σ H ds) (hl : ds.length ≤ 100000) : Gv K (tLst tas) σ H (.list ds) := fun H1 s1 Q q =>
  h H1 s1 _ fun vs H2 s2 hvs => ⟨line_of (by rw [hvs.length]; exact hl), fun p hp => q (.ref p) _ (s2.add hp) (.lstOf upd_same ((Same.new hp).dpAll hvs))⟩
theorem gl_lst (h : Gs K tas σ H ds) (hl : ds.length ≤ 100000) : Gl1 K (tLst tas) σ H ds := fun H1 s1 Q q =>
  h H1 s1 _ fun vs H2 s2 hvs => ⟨line_of (by rw [hvs.length]; exact hl), fun p hp => q p vs _ (s2.free hp) (s2.add hp) upd_same ((Same.new hp).dpAll hvs)⟩
theorem Gl1.gv (h : Gl1 K te σ H ds) : Gv K te σ H (.list ds) := fun H1 s1 Q q => h H1 s1 Q fun p xs H2 hp s2 h2 hd => q (.ref p) H2 s2 (.lstOf h2 hd)
theorem gv_i0 {g : Int → Int → V} {i j : Int} (ha : Gv K ta σ H (.int i)) (hb : Gv K tb σ H (.int j)) (hg : ∀ H, Dp K H (g i j) d) : Gv K (tOp (rI0 g) ta tb) σ H d := fun H1 s1 Q q =>
  ha H1 s1 _ fun v H2 s2 hv => hb H2 (s1.trans s2) _ fun u H3 s3 hu => ⟨i, j, hv.int_inv, hu.int_inv, q _ H3 (s2.trans s3) (hg H3)⟩
theorem gv_i {C : Int → Int → Prop} {g : Int → Int → V} {i j : Int} (ha : Gv K ta σ H (.int i)) (hb : Gv K tb σ H (.int j)) (hc : C i j) (hg : ∀ H, Dp K H (g i j) d) : Gv K (tOp (rI C g) ta tb) σ H d := fun H1 s1 Q q =>
  ha H1 s1 _ fun v H2 s2 hv => hb H2 (s1.trans s2) _ fun u H3 s3 hu => ⟨i, j, hv.int_inv, hu.int_inv, hc, q _ H3 (s2.trans s3) (hg H3)⟩
theorem gv_neg {i : Int} (ha : Gv K ta σ H (.int i)) : Gv K (tUn (rU fun i => .int (-i)) ta) σ H (.int (-i)) := fun H1 s1 Q q =>
  ha H1 s1 _ fun v H2 s2 hv => ⟨i, hv.int_inv, q _ H2 s2 (.int _)⟩
theorem gv_ixL {i : Int} (ha : Gv K ta σ H (.list ds)) (hb : Gv K tb σ H (.int i)) (h : atI ds i = some d) : Gv K (tOp (rIxL K) ta tb) σ H d := fun H1 s1 Q q =>
  ha H1 s1 _ fun v H2 s2 hv => hb H2 (s1.trans s2) _ fun u H3 s3 hu => by
    obtain ⟨a, xs, rfl, hq, hx⟩ := (s3.dp hv).lst_inv
    have hl := hx.length
    unfold atI at h
    cases e : ixN ds.length i with
    | none => rw [e] at h; cases h
    | some j =>
      rw [e] at h
      obtain ⟨w, h1, h2⟩ := hx.get (i := j) h
      exact ⟨a, xs, i, w, rfl, hu.int_inv, hq, by unfold atI; rw [hl, e]; exact h1, q w H3 (s2.trans s3) h2⟩
theorem gv_ixT {i : Int} (ha : Gv K ta σ H (.tuple ds)) (hb : Gv K tb σ H (.int i)) (h : atI ds i = some d) : Gv K (tOp (rIxT K) ta tb) σ H d := fun H1 s1 Q q =>
  ha H1 s1 _ fun v H2 s2 hv => hb H2 (s1.trans s2) _ fun u H3 s3 hu => by
    obtain ⟨a, xs, rfl, hq, hx⟩ := (s3.dp hv).tup_inv
    have hl := hx.length
    unfold atI at h
    cases e : ixN ds.length i with
    | none => rw [e] at h; cases h
    | some j =>
      rw [e] at h
      obtain ⟨w, h1, h2⟩ := hx.get (i := j) h
      exact ⟨a, xs, i, w, rfl, hu.int_inv, hq, by unfold atI; rw [hl, e]; exact h1, q w H3 (s2.trans s3) h2⟩
/-- the value, and what follows -/
theorem Gv.go {Q : VK} (h : Gv K te σ H d) (q : ∀ v H2, Same H H2 → Dp K H2 v d → Q v H2) : te σ H Q := h H (Same.refl H) Q q
theorem Gl1.go {Q : VK} (h : Gl1 K te σ H ds) (q : ∀ p xs H2, H p = none → Same H H2 → H2 p = some (.lst xs) → DpAll K H2 xs ds → Q (.ref p) H2) : te σ H Q := h H (Same.refl H) Q q
theorem Gs.go {Q : List V → Hp → Prop} (h : Gs K tas σ H ds) (q : ∀ vs H2, Same H H2 → DpAll K H2 vs ds → Q vs H2) : tas σ H Q := h H (Same.refl H) Q q
end
/-- len of a list or a tuple -/
theorem Dp.seq {K : PySem.W.Frag} {H : Hp} {v : V} {ds : List PyData} {d : PyData} (h : Dp K H v d) (e : d = .list ds ∨ d = .tuple ds) : ∃ a xs, v = .ref a ∧ (d = .list ds ∧ SqL K H a xs ∨ d = .tuple ds ∧ SqT K H a xs) ∧ DpAll K H xs ds := by
  rcases e with rfl | rfl
  · obtain ⟨a, xs, rfl, h1, h2⟩ := h.lst_inv
    exact ⟨a, xs, rfl, .inl ⟨rfl, h1⟩, h2⟩
  · obtain ⟨a, xs, rfl, h1, h2⟩ := h.tup_inv
    exact ⟨a, xs, rfl, .inr ⟨rfl, h1⟩, h2⟩
theorem Dp.len {K : PySem.W.Frag} {H : Hp} {v : V} {ds : List PyData} {d : PyData} (h : Dp K H v d) (e : d = .list ds ∨ d = .tuple ds) : LenV K v H ds.length := by
  obtain ⟨a, xs, rfl, h1, h2⟩ := h.seq e
  rw [← h2.length]
  rcases h1 with ⟨_, h1⟩ | ⟨_, h1⟩
  · exact .inl ⟨xs, h1, rfl⟩
  · exact .inr ⟨xs, h1, rfl⟩
theorem Dp.ix {K : PySem.W.Frag} {H : Hp} {v : V} {ds : List PyData} {d e : PyData} {i : Nat} {Q : VK} (h : Dp K H v d) (hd : d = .list ds ∨ d = .tuple ds) (hi : ds[i]? = some e) (q : ∀ u, Dp K H u e → Q u H) : rIx K v (.int (i : Nat)) H Q := by
  obtain ⟨a, xs, rfl, h1, h2⟩ := h.seq hd
  obtain ⟨u, hu1, hu2⟩ := h2.get hi
  rcases h1 with ⟨_, h1⟩ | ⟨_, h1⟩
  · exact .inl ⟨a, xs, _, u, rfl, rfl, h1, atI_nat hu1, q u hu2⟩
  · exact .inr (.inl ⟨a, xs, _, u, rfl, rfl, h1, atI_nat hu1, q u hu2⟩)
/-- == of plain values, or of data -/
def rEqA (K : PySem.W.Frag) : R2 := fun x y H Q => rEq x y H Q ∨ rEqD K x y H Q
def rNeA (K : PySem.W.Frag) : R2 := fun x y H Q => rNe x y H Q ∨ rNeD K x y H Q
theorem op_eqAK {X : Cx} (K : PySem.W.Frag) (hu : X.A.units + 65 < cLine) (hK : X.K = K := by rfl) : OpR X (compareOp .Eq) (rEqA K) := op_eq.or (op_eqDK K hu hK)
theorem op_neAK {X : Cx} (K : PySem.W.Frag) (hu : X.A.units + 65 < cLine) (hK : X.K = K := by rfl) : OpR X (compareOp .NotEq) (rNeA K) := op_ne.or (op_neDK K hu hK)
end L2

namespace L2
open PySem PySem.Spec PyProof.Rows
/-! ### a + b by the class's own def -/
section
variable {X : Cx} {CX : CXT} {k : Nat} {f C : Addr} {fd : FuncData} {ps : List Str} {sp : Sp} {E : XK}
def rAddO (C : Addr) (sp : Sp) (E : XK) : R2 := fun x y H Q => ∃ a dx fs b dx' fs', x = .ref a ∧ y = .ref b ∧ H a = some (.ins C dx fs) ∧ H b = some (.ins C dx' fs') ∧ sp [.ref a, .ref b] H (fun v H' => (∃ c, v = .ref c) ∧ Q v H') E
theorem op_addO (hs : Spc X.K C "__add__" f) (hc : PySem.W.selfFirst X.K C = true) (F : FnOk X.prog X.w X.K X.mg X.base CX k f fd ps sp) (hr : Room k X.A) (hb : Binds X.K fd ps []) (hx : Passes CX X E) : OpR X (binaryOp .Add) (rAddO C sp E) := by
  intro pins s σ H x y v u Q I rx ry h
  obtain ⟨a, dx, fs, b, dx', fs', rfl, rfl, e, e', h⟩ := h
  cases rx
  cases ry
  obtain ⟨od, J⟩ := ins_at I e
  obtain ⟨od', J'⟩ := ins_at I e'
  obtain ⟨m, F0⟩ := I.fr
  refine PySem.W.binop_K F0 I.ok.mod.kin J J'.type hc hs.at_ hs.fn (wpAny_mono (run_fn F hr hb .nil hx I (vs := [.ref a, .ref b]) (us := [.ref a, .ref b]) (.cons rfl (.cons rfl .nil)) h) (fun v s' q => ?_) fun _ _ z => z)
  obtain ⟨v', H', I', rv, ⟨c, rfl⟩, q⟩ := q
  cases rv
  exact ⟨.ref c, H', I', rfl, q⟩
end
/-- a slice's part left out -/
theorem po_no {X : Cx} : PO X none (fun _ H Q => Q none H) := po_none
/-! ### tuples of data: t + u, t[:n], t[n:] -/
section
variable {K : PySem.W.Frag} {H : Hp} {Q : VK} {v u : V} {ds es : List PyData}
theorem catT_go (hv : Dp K H v (.tuple ds)) (hu : Dp K H u (.tuple es)) (hl : ds.length + es.length ≤ 100000) (q : ∀ w H', Same H H' → Dp K H' w (.tuple (ds ++ es)) → Q w H') : rCatA K v u H Q := by
  obtain ⟨a, xs, rfl, ha, hxs⟩ := hv.tup_inv
  obtain ⟨b, ys, rfl, hb, hys⟩ := hu.tup_inv
  have e1 := hxs.length
  have e2 := hys.length
  refine ⟨a, b, xs, ys, rfl, rfl, ha, hb, line_of (by omega), fun e => ?_, fun _ e => ?_, fun _ _ p hp => ?_⟩
  · subst e
    cases hxs
    exact q _ H (Same.refl H) hu
  · subst e
    cases hys
    rw [List.append_nil] at q
    exact q _ H (Same.refl H) hv
  · exact q _ _ (Same.new hp) (.tupOf upd_same (((Same.new hp).dpAll hxs).append ((Same.new hp).dpAll hys)))
theorem slT_go {lo hi : Option Int} {fs : List PyData} (hv : Dp K H v (.tuple ds)) (hf : (ds.drop (HT.sIx ds.length 0 lo)).take (HT.sIx ds.length ds.length hi - HT.sIx ds.length 0 lo) = fs) (q : ∀ w H', Same H H' → Dp K H' w (.tuple fs) → Q w H') : rSlA K v lo hi H Q := by
  obtain ⟨a, xs, rfl, ha, hxs⟩ := hv.tup_inv
  have e1 := hxs.length
  refine ⟨a, xs, rfl, ha, fun e => ?_, fun _ p hp => ?_⟩
  · have : fs = ds := by
      rw [← hf, ← e1, e.1, e.2]
      simp [e1]
    rw [this] at q
    exact q _ H (Same.refl H) hv
  · refine q _ _ (Same.new hp) (.tupOf upd_same ?_)
    rw [← hf]
    unfold cutV
    rw [e1]
    exact (Same.new hp).dpAll ((hxs.drop _).take _)
theorem slT_to {n : Nat} {z : Int} (hv : Dp K H v (.tuple ds)) (e : z = (n : Int)) (q : ∀ w H', Same H H' → Dp K H' w (.tuple (ds.take n)) → Q w H') : rSlA K v none (some z) H Q := by
  subst e
  refine slT_go hv ?_ q
  rw [HT.sIx_none, HT.sIx_nat, List.drop_zero, Nat.sub_zero]
  rcases Nat.le_total n ds.length with h | h
  · rw [Nat.min_eq_left h]
  · rw [Nat.min_eq_right h, List.take_length, List.take_of_length_le h]
theorem slT_from {n : Nat} {z : Int} (hv : Dp K H v (.tuple ds)) (e : z = (n : Int)) (q : ∀ w H', Same H H' → Dp K H' w (.tuple (ds.drop n)) → Q w H') : rSlA K v (some z) none H Q := by
  subst e
  refine slT_go hv ?_ q
  rw [HT.sIx_none, HT.sIx_nat]
  rcases Nat.le_total n ds.length with h | h
  · rw [Nat.min_eq_left h, List.take_of_length_le (by rw [List.length_drop]; exact Nat.le_refl _)]
  · rw [Nat.min_eq_right h, List.drop_of_length_le h, List.drop_length]; simp
end
/-! ### texts joined -/
def rJoin (K : PySem.W.Frag) : V → List V → Hp → VK → Prop := fun x xs H Q => ∃ a p, ∃ ys : List Str, x = .str a ∧ xs = [.ref p] ∧ (SqL K H p (ys.map V.str) ∨ SqT K H p (ys.map V.str)) ∧ (ys.map (·.length)).sum + ys.length * a.length ≤ 16777216 ∧ Q (.str (Txt.join a ys)) H
theorem pe_joinK {X : Cx} {o e : Expr} {to te : TE} (K : PySem.W.Frag) {apos pos : Pos} (ho : PE X o to) (he : PE X e te) (hK : X.K = K := by rfl) (hs : starEach [e] X.env = [(false, eval e X.env)] := by rfl) (hbase : attributeBase o "join" X.env (eval o X.env) = eval o X.env := by rfl) (hline : (apos.endLine == pos.line) = true := by rfl) :
    PE X (.Call (.Attribute o "join" apos) [e] [] pos) (tM1 (rJoin K) to te) := by subst hK; exact pe_join ho he hs hbase hline
end L2

namespace Y
open PySem L2
def top (i : Nat) : Stmt := PySem.Challenge.pw_yearturned_k10_script_texts.main.body.getD i (.Pass ⟨0, 0, 0, 0⟩)
abbrev s_is_whole : Stmt := top 5
abbrev s_is_step : Stmt := top 9
abbrev s_Script_init : Stmt := inClass (top 10) 0
abbrev s_Script_len : Stmt := inClass (top 10) 3
abbrev s_Script_add : Stmt := inClass (top 10) 6
abbrev s_Script_has : Stmt := inClass (top 10) 7
abbrev s_Script_steps : Stmt := inClass (top 10) 8
abbrev s_Script_without : Stmt := inClass (top 10) 9
abbrev s_script_text : Stmt := top 14
abbrev s_well : Stmt := top 16
abbrev s_draw : Stmt := top 17
abbrev s_menu : Stmt := top 18
abbrev s_row : Stmt := top 19
abbrev s_same : Stmt := top 20
abbrev s_l_script_text : Stmt := top 21
abbrev s_texted : Stmt := top 22
abbrev s_law : Stmt := top 23
theorem sc_is_whole : FnScope ["thing"] ["thing"] (defScope s_is_whole) := ⟨rfl, rfl, rfl, by decide +kernel, rfl, by decide +kernel, by decide +kernel⟩
theorem sc_is_step : FnScope ["thing", "word"] ["thing"] (defScope s_is_step) := ⟨rfl, rfl, rfl, by decide +kernel, rfl, by decide +kernel, by decide +kernel⟩
theorem sc_Script_init : FnScope ["self", "steps", "index", "step"] ["self", "steps"] (defScope s_Script_init) := ⟨rfl, rfl, rfl, by decide +kernel, rfl, by decide +kernel, by decide +kernel⟩
theorem sc_Script_len : FnScope ["self"] ["self"] (defScope s_Script_len) := ⟨rfl, rfl, rfl, by decide +kernel, rfl, by decide +kernel, by decide +kernel⟩
theorem sc_Script_add : FnScope ["self", "other"] ["self", "other"] (defScope s_Script_add) := ⟨rfl, rfl, rfl, by decide +kernel, rfl, by decide +kernel, by decide +kernel⟩
theorem sc_Script_has : FnScope ["self", "index"] ["self", "index"] (defScope s_Script_has) := ⟨rfl, rfl, rfl, by decide +kernel, rfl, by decide +kernel, by decide +kernel⟩
theorem sc_Script_steps : FnScope ["self"] ["self"] (defScope s_Script_steps) := ⟨rfl, rfl, rfl, by decide +kernel, rfl, by decide +kernel, by decide +kernel⟩
theorem sc_Script_without : FnScope ["self", "index"] ["self", "index"] (defScope s_Script_without) := ⟨rfl, rfl, rfl, by decide +kernel, rfl, by decide +kernel, by decide +kernel⟩
theorem sc_script_text : FnScope ["script", "step"] ["script"] (defScope s_script_text) := ⟨rfl, rfl, rfl, by decide +kernel, rfl, by decide +kernel, by decide +kernel⟩
theorem sc_well : FnScope ["script", "k", "cell", "deep"] ["script", "k"] (defScope s_well) := ⟨rfl, rfl, rfl, by decide +kernel, rfl, by decide +kernel, by decide +kernel⟩
theorem sc_draw : FnScope ["well", "many", "found", "turn", "mixed"] ["well", "many"] (defScope s_draw) := ⟨rfl, rfl, rfl, by decide +kernel, rfl, by decide +kernel, by decide +kernel⟩
theorem sc_menu : FnScope ["found", "word"] [] (defScope s_menu) := ⟨rfl, rfl, rfl, by decide +kernel, rfl, by decide +kernel, by decide +kernel⟩
theorem sc_row : FnScope ["well", "most", "menu", "few", "found", "turn"] ["well", "most"] (defScope s_row) := ⟨rfl, rfl, rfl, by decide +kernel, rfl, by decide +kernel, by decide +kernel⟩
theorem sc_same : FnScope ["actual", "expected", "k"] ["actual", "expected"] (defScope s_same) := ⟨rfl, rfl, rfl, by decide +kernel, rfl, by decide +kernel, by decide +kernel⟩
theorem sc_l_script_text : FnScope ["row", "step"] ["row"] (defScope s_l_script_text) := ⟨rfl, rfl, rfl, by decide +kernel, rfl, by decide +kernel, by decide +kernel⟩
theorem sc_texted : FnScope ["work", "row"] ["work", "row"] (defScope s_texted) := ⟨rfl, rfl, rfl, by decide +kernel, rfl, by decide +kernel, by decide +kernel⟩
theorem sc_law : FnScope ["script", "held", "k", "well", "row", "more", "work", "spot"] ["script"] (defScope s_law) := ⟨rfl, rfl, rfl, by decide +kernel, rfl, by decide +kernel, by decide +kernel⟩
/-- a def of the module, a def of a class, as the top has left them -/
structure Df (K : PySem.W.Frag) (mg : Str → Option Value) (x : Str) (st : Stmt) (ps : List Str) where
  a : Addr
  fd : FuncData
  F : Fun K x x st a fd
  g : mg x = some (.ref a)
  b : Binds K fd ps []
structure Mt (K : PySem.W.Frag) (C : Addr) (m q : Str) (st : Stmt) (ps : List Str) where
  a : Addr
  fd : FuncData
  F : Fun K m q st a fd
  m : Meth K C m a
  b : Binds K fd ps []
theorem Mt.spc {K : PySem.W.Frag} {C : Addr} {m q : Str} {st : Stmt} {ps : List Str} (M : Mt K C m q st ps) : Spc K C m M.a := ⟨M.m.at_, M.m.fn⟩

structure Tx (K : PySem.W.Frag) (mg : Str → Option Value) where
  c_Script : Addr
  g_Script : mg "Script" = some (.ref c_Script)
  is_whole : Df K mg "is_whole" s_is_whole ["thing"]
  is_step : Df K mg "is_step" s_is_step ["thing"]
  Script_init : Mt K c_Script "__init__" "Script.__init__" s_Script_init ["self", "steps"]
  Script_len : Mt K c_Script "__len__" "Script.__len__" s_Script_len ["self"]
  Script_add : Mt K c_Script "__add__" "Script.__add__" s_Script_add ["self", "other"]
  Script_has : Mt K c_Script "has" "Script.has" s_Script_has ["self", "index"]
  Script_steps : Mt K c_Script "steps" "Script.steps" s_Script_steps ["self"]
  Script_without : Mt K c_Script "without" "Script.without" s_Script_without ["self", "index"]
  script_text : Df K mg "script_text" s_script_text ["script"]
  well : Df K mg "_law_well" s_well ["script", "k"]
  draw : Df K mg "_law_draw" s_draw ["well", "many"]
  menu : Df K mg "_law_menu" s_menu []
  row : Df K mg "_law_row" s_row ["well", "most"]
  same : Df K mg "_law_same" s_same ["actual", "expected"]
  l_script_text : Df K mg "_law_script_text" s_l_script_text ["row"]
  texted : Df K mg "_law_texted" s_texted ["work", "row"]
  law : Df K mg "law" s_law ["script"]
  cl_Script : Cls K c_Script
  ic_Script : InsI K c_Script
  mk_Script : Mk K c_Script Script_init.a
  sf_Script : PySem.W.selfFirst K c_Script = true
  na_Script_kept_steps : NoAttr K c_Script "kept_steps"
  a_STEPS : Addr
  g_STEPS : mg "STEPS" = some (.ref a_STEPS)
  d_STEPS : ∀ H, Dp K H (.ref a_STEPS) (.tuple [(.tuple [(.str "make"), (.str "all")]), (.tuple [(.str "make"), (.str "standing")]), (.tuple [(.str "start"), (.str "new")]), (.tuple [(.str "start"), (.str "all")]), (.tuple [(.str "start"), (.str "free")]), (.tuple [(.str "label"), (.str "new")]), (.tuple [(.str "label"), (.str "all")]), (.tuple [(.str "label"), (.str "free")]), (.tuple [(.str "tie"), (.str "new")]), (.tuple [(.str "tie"), (.str "all")]), (.tuple [(.str "tie"), (.str "free")]), (.tuple [(.str "drop")])])
  t_MOST_STEPS : Tok
  g_MOST_STEPS : mg "MOST_STEPS" = some (.int 12 t_MOST_STEPS)
  t_NOTHING : Tok
  g_NOTHING : mg "NOTHING" = some (.str "nothing" t_NOTHING)
  t_BETWEEN : Tok
  g_BETWEEN : mg "BETWEEN" = some (.str ", " t_BETWEEN)
  b_len : mg "len" = none
  b_isinstance : mg "isinstance" = none
  b_int : mg "int" = none
  b_bool : mg "bool" = none
  b_str : mg "str" = none
  b_tuple : mg "tuple" = none
  b_list : mg "list" = none
  b_all : mg "all" = none
  b_max : mg "max" = none
  b_range : mg "range" = none
  b_enumerate : mg "enumerate" = none
end Y
namespace Y
open PySem L2
local macro_rules | `(tactic| walk_at "y") => `(tactic| repeat (first | refine ⟨_, rfl, ?_⟩ | refine ⟨_, _, rfl, rfl, ?_⟩))
theorem iteB {A B : Prop} {c : Bool} (h1 : c = true → A) (h2 : c = false → B) : if c = true then A else B := by
  cases c with
  | true => exact h1 rfl
  | false => rw [if_neg (by decide)]; exact h2 rfl
abbrev T7 : List String := ["NoneType", "bool", "int", "str", "list", "tuple", "dict"]
def STEPSD : List PyData := [.tuple [.str "make", .str "all"], .tuple [.str "make", .str "standing"], .tuple [.str "start", .str "new"], .tuple [.str "start", .str "all"], .tuple [.str "start", .str "free"], .tuple [.str "label", .str "new"], .tuple [.str "label", .str "all"], .tuple [.str "label", .str "free"], .tuple [.str "tie", .str "new"], .tuple [.str "tie", .str "all"], .tuple [.str "tie", .str "free"], .tuple [.str "drop"]]
def isStepD : PyData → Bool
  | .tuple ds => ds.all (fun d => isTy (tyD d) "str") && STEPSD.any fun z => PyData.eqv z (.tuple ds)
  | _ => false
theorem step_is : ∀ d ∈ STEPSD, isStepD d = true ∧ SeqAt.shaped d = true ∧ imm d = true ∧ PyData.eqv d d = true := by
  intro d hd
  simp only [STEPSD, List.mem_cons, List.not_mem_nil, or_false] at hd
  rcases hd with rfl | rfl | rfl | rfl | rfl | rfl | rfl | rfl | rfl | rfl | rfl | rfl <;> decide +kernel
/-- a row of steps -/
structure Row (ds : List PyData) : Prop where
  st : ∀ d ∈ ds, d ∈ STEPSD
  len : ds.length ≤ 12
theorem imm_all : ∀ {ds : List PyData}, (∀ d ∈ ds, imm d = true) → immAll ds = true
  | [], _ => rfl
  | d :: ds, h => by
    simp only [immAll, Bool.and_eq_true]
    exact ⟨h d (by simp), imm_all (ds := ds) fun x hx => h x (List.mem_cons_of_mem d hx)⟩
theorem Row.imm {ds : List PyData} (r : Row ds) : imm (.tuple ds) = true := by
  show immAll ds = true
  exact imm_all fun d hd => (step_is d (r.st d hd)).2.2.1
theorem stepsd_shaped : SeqAt.shaped (.tuple STEPSD) = true := by decide +kernel
theorem canLay_all : ∀ {ds : List PyData}, (∀ d ∈ ds, SeqAt.shaped d = true) → PyData.canLayAll0 ds = true
  | [], _ => by simp [PyData.canLayAll0]
  | d :: ds, h => by
    have h1 := h d (by simp)
    simp only [SeqAt.shaped, Bool.and_eq_true] at h1
    simp [PyData.canLayAll0, h1.1, canLay_all (ds := ds) fun x hx => h x (List.mem_cons_of_mem d hx)]
theorem step_depth : ∀ d ∈ STEPSD, d.depth ≤ 1 := by
  intro d hd
  simp only [STEPSD, List.mem_cons, List.not_mem_nil, or_false] at hd
  rcases hd with rfl | rfl | rfl | rfl | rfl | rfl | rfl | rfl | rfl | rfl | rfl | rfl <;> decide +kernel
theorem depth_all {n : Nat} : ∀ {ds : List PyData}, (∀ d ∈ ds, d.depth ≤ n) → PyData.depthAll ds ≤ n
  | [], _ => by simp [PyData.depthAll]
  | d :: ds, h => by
    have h1 := h d (by simp)
    have h2 := depth_all (ds := ds) fun x hx => h x (List.mem_cons_of_mem d hx)
    simp only [PyData.depthAll]
    omega
theorem row_shaped {ds : List PyData} (h : ∀ d ∈ ds, d ∈ STEPSD) : SeqAt.shaped (.tuple ds) = true := by
  have h1 := depth_all fun d hd => step_depth d (h d hd)
  have h2 : PyData.depth (.tuple ds) ≤ 64 := by simp only [PyData.depth]; omega
  show (PyData.canLay0 (.tuple ds) && decide (PyData.depth (.tuple ds) ≤ 64)) = true
  rw [Bool.and_eq_true]
  exact ⟨by simp only [PyData.canLay0]; exact canLay_all fun d hd => (step_is d (h d hd)).2.1, decide_eq_true h2⟩
/-- a Script's fields -/
def kf (v : V) : List (Str × V) := putF "kept_steps" v []
theorem kf_get (v : V) : (kf v).lookup ("kept_steps" : Str) = some v := by
  unfold kf
  rw [lookup_putF, if_pos rfl]
theorem kf_no (v : V) {m : Str} (h : ¬ m = "kept_steps") : (kf v).lookup m = none := by
  unfold kf
  rw [lookup_putF, if_neg h]
  all_goals rfl
/-- a Script with the steps ds stands at a -/
def ScrAt (K : PySem.W.Frag) (C : Addr) (H : Hp) (a : Addr) (ds : List PyData) : Prop := ∃ dx v, H a = some (.ins C dx (kf v)) ∧ Dp K H v (.tuple ds)
theorem ScrAt.same {K : PySem.W.Frag} {C : Addr} {H H' : Hp} {a : Addr} {ds : List PyData} (s : Same H H') (h : ScrAt K C H a ds) : ScrAt K C H' a ds := by
  obtain ⟨dx, v, h1, h2⟩ := h
  exact ⟨dx, v, s _ _ h1, s.dp h2⟩
theorem ScrAt.but {K : PySem.W.Frag} {C p : Addr} {H H' : Hp} {a : Addr} {ds : List PyData} (s : But p H H') (n : a ≠ p) (r : Row ds) (h : ScrAt K C H a ds) : ScrAt K C H' a ds := by
  obtain ⟨dx, v, h1, h2⟩ := h
  exact ⟨dx, v, s.keep _ _ h1 n, s.dp r.imm h2⟩
theorem iteF' {A B : Prop} {c : Bool} (h : c = false) (hb : B) : if c = true then A else B := by
  rw [h]; exact iteF hb
theorem iteT' {A B : Prop} {c : Bool} (h : c = true) (hb : A) : if c = true then A else B := by
  rw [h]; exact iteT hb
theorem step_len : ∀ ds : List PyData, .tuple ds ∈ STEPSD → ds.length ≤ 1000 := by
  intro ds hd
  simp only [STEPSD, List.mem_cons, List.not_mem_nil, or_false, PyData.tuple.injEq] at hd
  rcases hd with rfl | rfl | rfl | rfl | rfl | rfl | rfl | rfl | rfl | rfl | rfl | rfl <;> decide
def spWhole (K : PySem.W.Frag) : Sp := fun vs H Q _ => ∃ (v : V) (t : String), vs = [v] ∧ TyX K H v (.type t) ∧ t ∈ T7 ∧ Q (.bl (t == "int")) H
def spIsStep (K : PySem.W.Frag) : Sp := fun vs H Q _ => ∃ v : V, vs = [v] ∧
  ((∃ d, Dp K H v d ∧ SeqAt.shaped d = true ∧ (∀ ds, d = .tuple ds → ds.length ≤ 1000) ∧ ∀ H', Same H H' → Q (.bl (isStepD d)) H') ∨ ∃ t, TyX K H v (.type t) ∧ t ∈ T7 ∧ t ≠ "tuple" ∧ Q (.bl false) H)
def spInit (K : PySem.W.Frag) (C : Addr) : Sp := fun vs H Q _ => ∃ (x dx : Addr) (v : V) (ds : List PyData), vs = [.ref x, v] ∧ H x = some (.ins C dx []) ∧ Dp K H v (.tuple ds) ∧ Row ds ∧
  ∀ H', H' x = some (.ins C dx (kf v)) → (∀ b o, H b = some o → b ≠ x → H' b = some o) → Q .non H'
def spSteps (C : Addr) : Sp := fun vs H Q _ => ∃ (a dx : Addr) (v : V), vs = [.ref a] ∧ H a = some (.ins C dx (kf v)) ∧ Q v H
def spLen (K : PySem.W.Frag) (C : Addr) : Sp := fun vs H Q _ => ∃ (a : Addr) (ds : List PyData), vs = [.ref a] ∧ ScrAt K C H a ds ∧ Q (.int ds.length) H
def spHas (K : PySem.W.Frag) (C : Addr) : Sp := fun vs H Q _ => ∃ (a : Addr) (ds : List PyData) (v : V) (t : String), vs = [.ref a, v] ∧ ScrAt K C H a ds ∧ TyX K H v (.type t) ∧ t ∈ T7 ∧
  (t ≠ "int" → Q (.bl false) H) ∧ ∀ i, v = .int i → Q (.bl (decide (0 ≤ i ∧ i < (ds.length : Int)))) H
/-- an index that is there -/
def spGet (K : PySem.W.Frag) (C : Addr) : Sp := fun vs H Q _ => ∃ (a : Addr) (ds : List PyData) (i : Nat) (d : PyData), vs = [.ref a, .int i] ∧ ScrAt K C H a ds ∧ ds[i]? = some d ∧ ∀ v, Dp K H v d → Q v H
def spIn (K : PySem.W.Frag) (C : Addr) : Sp := fun vs H Q _ => ∃ (a : Addr) (ds : List PyData) (v : V), vs = [.ref a, v] ∧ ScrAt K C H a ds ∧ (∀ d ∈ ds, d ∈ STEPSD) ∧
  ((∃ d, Dp K H v d ∧ SeqAt.shaped d = true ∧ (∀ ds, d = .tuple ds → ds.length ≤ 1000) ∧ ∀ H', Same H H' → Q (.bl (isStepD d && ds.any fun z => PyData.eqv z d)) H') ∨ ∃ t, TyX K H v (.type t) ∧ t ∈ T7 ∧ t ≠ "tuple" ∧ Q (.bl false) H)
section
variable {P : Program} {w : World} {K : PySem.W.Frag} {mg : Str → Option Value} {base : Heap}
theorem ok_is_whole (T : Tx K mg) : FnOk P w K mg base CX0 1 T.is_whole.a T.is_whole.fd ["thing"] (spWhole K) := by
  refine T.is_whole.F.ok sc_is_whole (fun vs H Q E h => by obtain ⟨v, t, rfl, _⟩ := h; rfl) (fun cdv A outer s H vs Q E hr h => ?_)
  obtain ⟨v, t, rfl, ty, ht, q⟩ := h
  refine ⟨_, (pss_one (ps_ret (pe_and (pe_callB (call_isDK K) (by rfl) T.b_isinstance (by decide +kernel) (pa_cons (pv 0) (pa_cons (pe_bltn (v := .ty "int") (by rfl) T.b_int (by decide +kernel) rfl) pa_nil))) (pe_one (pe_not (pe_callB (call_isDK K) (by rfl) T.b_isinstance (by decide +kernel) (pa_cons (pv 0) (pa_cons (pe_bltn (v := .ty "bool") (by rfl) T.b_bool (by decide +kernel) rfl) pa_nil)))))))), ?_⟩
  refine ⟨_, rfl, v, t, "int", rfl, ty, ht, by decide, _, rfl, iteB (fun c => ?_) (fun c => ?_)⟩
  · refine ⟨_, rfl, v, t, "bool", rfl, ty, ht, by decide, _, rfl, ?_⟩
    have e : (!isTy t "bool") = (t == "int") := by
      simp only [T7, List.mem_cons, List.not_mem_nil, or_false] at ht
      rcases ht with rfl | rfl | rfl | rfl | rfl | rfl | rfl <;> first | rfl | exact absurd c (by decide) | decide
    show Q (.bl (!isTy t "bool")) H
    rw [e]; exact q
  · have e : (t == "int") = false := by
      simp only [T7, List.mem_cons, List.not_mem_nil, or_false] at ht
      rcases ht with rfl | rfl | rfl | rfl | rfl | rfl | rfl <;> first | rfl | exact absurd c (by decide) | decide
    show Q (.bl false) H
    rw [← e]; exact q
theorem ok_is_step (T : Tx K mg) : FnOk P w K mg base CX0 1 T.is_step.a T.is_step.fd ["thing"] (spIsStep K) := by
  refine T.is_step.F.ok sc_is_step (fun vs H Q E h => by obtain ⟨v, rfl, _⟩ := h; rfl) (fun cdv A outer s H vs Q E hr h => ?_)
  obtain ⟨v, rfl, h⟩ := h
  refine ⟨_, (pss_one (ps_ret (pe_and (pe_callB (call_isDK K) (by rfl) T.b_isinstance (by decide +kernel) (pa_cons (pv 0) (pa_cons (pe_bltn (v := .ty "tuple") (by rfl) T.b_tuple (by decide +kernel) rfl) pa_nil))) (pe_and (pe_callB (cr_allK K rfl) (by rfl) T.b_all (by decide +kernel) (pa_cons (pe_lc (own := [("word", 1)]) (g := (gName 1)) (tt := tYes) rfl sc_is_step.nd (pi_tupK K (pv 0)) (blkOk_by (N := ["thing", "word"]) (sc := defScope s_is_step) (by decide +kernel)) (fun _ _ _ _ _ => pg_name (i := 1) sc_is_step.nd rfl (Or.inl rfl)) (fun _ _ _ _ _ => pts_nil) (fun _ _ _ _ _ => (pe_callB (call_isDK K) (by rfl) T.b_isinstance (by decide +kernel) (pa_cons (pv 1) (pa_cons (pe_bltn (v := .ty "str") (by rfl) T.b_str (by decide +kernel) rfl) pa_nil))))) pa_nil)) (pe_one (pe_cmpR (op_inTDK K (hu65 hr)) (pv 0) (pe_glob (v := .ref T.a_STEPS) rfl T.g_STEPS rfl) (by rfl))))))), ?_⟩
  rcases h with ⟨d, hd, sh, hl, q⟩ | ⟨t, ty, ht, hn, q⟩
  · refine ⟨_, rfl, v, tyD d, "tuple", rfl, hd.ty, tyD_mem d, by decide, _, rfl, iteB (fun c => ?_) (fun c => ?_)⟩
    · obtain ⟨ds, rfl⟩ : ∃ ds, d = .tuple ds := by
        cases d <;> first | exact ⟨_, rfl⟩ | (simp [tyD, isTy] at c)
      obtain ⟨a, xs, rfl, hx, hxs⟩ := hd.tup_inv
      have hlen := hxs.length
      have hl := hl ds rfl
      -- [isinstance(word, str) for word in thing]
      refine ⟨_, rfl, a, rfl, ⟨_, hx⟩, fun D nD => ?_⟩
      refine lc_tup (K := K) (a := a) (xs := xs) (fun i H' => Same H H' ∧ H' D = some (.lst ((ds.take i).map fun d => .bl (isTy (tyD d) "str")))) ⟨Same.new nD, by simp [upd_same]⟩ (fun i H' _ ⟨s, _⟩ => s.sqT hx) ?_ ?_
      · rintro i y H' hi ⟨s, hD⟩
        obtain ⟨dd, h1, h2⟩ := hxs.get' hi
        refine ⟨rfl, _, rfl, y, tyD dd, "str", rfl, (s.dp h2).ty, tyD_mem dd, by decide, _, hD, ?_, ?_⟩
        · refine small1000 ?_
          rw [List.length_map, List.length_take]; omega
        · refine ⟨s.mut nD, ?_⟩
          rw [upd_same, List.take_add_one, h1]
          simp
      · rintro H' ⟨s, hD⟩
        rw [hlen, List.take_length] at hD
        refine ⟨D, ds.map fun d => isTy (tyD d) "str", rfl, SqL.of (by rw [hD, List.map_map]; rfl), _, rfl, iteB (fun c2 => ?_) (fun c2 => ?_)⟩
        · -- thing in STEPS
          refine ⟨_, rfl, .tuple ds, STEPSD, s.dp hd, T.d_STEPS _, sh, stepsd_shaped, ?_⟩
          have e : isStepD (.tuple ds) = STEPSD.any fun z => PyData.eqv z (.tuple ds) := by
            have : (ds.all fun d => isTy (tyD d) "str") = true := by simpa [List.all_map] using c2
            simp [isStepD, this]
          have := q H' s
          rw [e] at this; exact this
        · have e : isStepD (.tuple ds) = false := by
            have : (ds.all fun d => isTy (tyD d) "str") = false := by simpa [List.all_map] using c2
            simp [isStepD, this]
          have := q H' s
          rw [e] at this; exact this
    · have e : isStepD d = false := by cases d <;> first | rfl | (simp [tyD, isTy] at c)
      have := q H (Same.refl H)
      rw [e] at this; exact this
  · refine ⟨_, rfl, v, t, "tuple", rfl, ty, ht, by decide, _, rfl, iteB (fun c => ?_) (fun c => q)⟩
    exfalso
    simp [isTy] at c
    exact hn c
theorem ok_Script_init (T : Tx K mg) : FnOk P w K mg base CX0 3 T.Script_init.a T.Script_init.fd ["self", "steps"] (spInit K T.c_Script) := by
  have G_is_step := ok_is_step (P := P) (w := w) (base := base) T
  refine T.Script_init.F.ok sc_Script_init (fun vs H Q E h => by obtain ⟨x, dx, v, ds, rfl, _⟩ := h; rfl) (fun cdv A outer s H vs Q E hr h => ?_)
  obtain ⟨x, dx, v, ds, rfl, hx, hd, r, q⟩ := h
  obtain ⟨a, xs, rfl, hq, hxs⟩ := hd.tup_inv
  have hlen := hxs.length
  have hl := r.len
  refine ⟨_, (pss_cons (ps_if (pt_not (pt_val (pe_callB (call_isDK K) (by rfl) T.b_isinstance (by decide +kernel) (pa_cons (pv 1) (pa_cons (pe_bltn (v := .ty "tuple") (by rfl) T.b_tuple (by decide +kernel) rfl) pa_nil)))))
  (pss_one ps_never)
  pss_nil)
  (pss_cons (ps_for PassesOwn.never rfl (pi_enumT (by rfl) T.b_enumerate (pa_cons (pv 1) pa_nil)) (pg_tupK K rfl (pgs_cons (pg_name (i := 2) sc_Script_init.nd rfl (Or.inl rfl)) (pgs_cons (pg_name (i := 3) sc_Script_init.nd rfl (Or.inl rfl)) pgs_nil)))
  (pss_one (ps_if (PW.pt (pw_or (pt_cmpR op_ge (pv 2) (pe_glob (v := .int 12) rfl T.g_MOST_STEPS ⟨_, rfl⟩) (nomark _)) (pw_or1 (pt_not (pt_val (pe_call G_is_step (hr.mono (by first | decide | omega)) rfl T.is_step.g T.is_step.F.kp T.is_step.b .nil pass0 (pa_cons (pv 3) pa_nil)))))))
  (pss_one ps_never)
  pss_nil)))
  (pss_one (ps_fldK K (pv 0) (pv 1) rfl)))), ?_⟩
  refine ⟨_, rfl, .ref a, "tuple", "tuple", rfl, hd.ty, by decide, by decide, _, rfl, ?_⟩
  refine iteF ?_
  -- for index, step in enumerate(steps)
  refine ⟨_, rfl, a, xs, rfl, hq, for_enumT (K := K) (a := a) (xs := xs) (fun i σ H' => Same H H' ∧ ∃ v2 v3, σ = [some (.ref x), some (.ref a), v2, v3]) ⟨Same.refl H, none, none, rfl⟩ (fun i σ H' _ ⟨s, _⟩ => s.sqT hq) ?_ ?_⟩
  · rintro i y T0 σ H' hi ⟨s, v2, v3, rfl⟩ nT
    obtain ⟨dd, h1, h2⟩ := hxs.get' hi
    have hst := r.st dd (List.mem_of_getElem? h1)
    have s2 : Same H (upd H' T0 (.tup [.int (i : Nat), y])) := s.add nT
    refine ⟨T0, _, rfl, SqT.of upd_same, rfl, _, _, rfl, _, _, rfl, rfl, ?_⟩
    refine ⟨_, rfl, _, _, rfl, rfl, _, rfl, iteF' ?_ ?_⟩
    · simp only [decide_eq_false_iff_not]
      have := (List.getElem?_eq_some_iff.mp h1).1
      omega
    · refine ⟨_, rfl, y, rfl, .inl ⟨dd, s2.dp h2, (step_is dd hst).2.1, ?_, fun H2 s3 => ⟨_, rfl, ?_⟩⟩⟩
      · rintro ds' rfl
        have := step_depth _ hst
        exact step_len _ hst
      · rw [(step_is dd hst).1]
        exact ⟨s2.trans s3, _, _, rfl⟩
  · rintro σ H' ⟨s, v2, v3, rfl⟩
    refine ⟨_, rfl, _, rfl, x, T.c_Script, dx, [], rfl, s _ _ hx, T.cl_Script, T.na_Script_kept_steps, by decide, ?_⟩
    exact q _ upd_same fun b o e n => by rw [upd_ne n]; exact s _ _ e
theorem ok_Script_steps (T : Tx K mg) : FnOk P w K mg base CX0 1 T.Script_steps.a T.Script_steps.fd ["self"] (spSteps T.c_Script) := by
  refine T.Script_steps.F.ok sc_Script_steps (fun vs H Q E h => by obtain ⟨a, dx, v, rfl, _⟩ := h; rfl) (fun cdv A outer s H vs Q E hr h => ?_)
  obtain ⟨a, dx, v, rfl, hx, q⟩ := h
  refine ⟨_, (pss_one (ps_ret (pe_fldK K (pv 0) rfl))), ?_⟩
  exact ⟨_, rfl, a, T.c_Script, dx, _, _, rfl, hx, T.cl_Script, T.na_Script_kept_steps, kf_get v, q⟩
theorem ok_Script_len (T : Tx K mg) : FnOk P w K mg base CX0 1 T.Script_len.a T.Script_len.fd ["self"] (spLen K T.c_Script) := by
  refine T.Script_len.F.ok sc_Script_len (fun vs H Q E h => by obtain ⟨a, ds, rfl, _⟩ := h; rfl) (fun cdv A outer s H vs Q E hr h => ?_)
  obtain ⟨a, ds, rfl, ⟨dx, v, hx, hd⟩, q⟩ := h
  obtain ⟨b, xs, rfl, hq, hxs⟩ := hd.tup_inv
  refine ⟨_, (pss_one (ps_ret (pe_callB (call_lenK K) (by rfl) T.b_len (by decide +kernel) (pa_cons (pe_fldK K (pv 0) rfl) pa_nil)))), ?_⟩
  refine ⟨_, rfl, a, T.c_Script, dx, _, _, rfl, hx, T.cl_Script, T.na_Script_kept_steps, kf_get _, _, xs.length, rfl, .inr ⟨xs, hq, rfl⟩, ?_⟩
  rw [hxs.length]; exact q
theorem ok_Script_has (T : Tx K mg) : FnOk P w K mg base CX0 2 T.Script_has.a T.Script_has.fd ["self", "index"] (spHas K T.c_Script) := by
  have G_is_whole := ok_is_whole (P := P) (w := w) (base := base) T
  refine T.Script_has.F.ok sc_Script_has (fun vs H Q E h => by obtain ⟨a, ds, v, t, rfl, _⟩ := h; rfl) (fun cdv A outer s H vs Q E hr h => ?_)
  obtain ⟨a, ds, v, t, rfl, ⟨dx, u, hx, hd⟩, ty, ht, q1, q2⟩ := h
  obtain ⟨b, xs, rfl, hq, hxs⟩ := hd.tup_inv
  refine ⟨_, (pss_one (ps_ret (pe_and (pe_call G_is_whole (hr.mono (by first | decide | omega)) rfl T.is_whole.g T.is_whole.F.kp T.is_whole.b .nil pass0 (pa_cons (pv 1) pa_nil)) (pe_one (pe_chain op_le op_lt pe_int (pv 1) (pe_callB (call_lenK K) (by rfl) T.b_len (by decide +kernel) (pa_cons (pe_fldK K (pv 0) rfl) pa_nil))))))), ?_⟩
  refine ⟨_, rfl, v, t, rfl, ty, ht, _, rfl, iteB (fun c => ?_) (fun c => q1 (by simpa using c))⟩
  have c : t = "int" := by simpa using c
  subst c
  obtain ⟨i, rfl⟩ := ty.int_inv
  have q2 := q2 i rfl
  refine ⟨_, rfl, _, _, rfl, rfl, _, rfl, iteB (fun c => ?_) (fun c => ?_)⟩
  · have c := of_decide_eq_true c
    refine ⟨_, rfl, a, T.c_Script, dx, _, _, rfl, hx, T.cl_Script, T.na_Script_kept_steps, kf_get _, _, xs.length, rfl, .inr ⟨xs, hq, rfl⟩, _, _, rfl, rfl, ?_⟩
    have e : decide (i < (xs.length : Int)) = decide (0 ≤ i ∧ i < (ds.length : Int)) := by
      rw [hxs.length]; simp [c]
    show Q (.bl (decide (i < (xs.length : Int)))) H
    rw [e]; exact q2
  · have c := of_decide_eq_false c
    have e : decide (0 ≤ i ∧ i < (ds.length : Int)) = false := by simp [c]
    rw [e] at q2; exact q2
end
end Y

namespace Y
open PySem L2
def spAdd (K : PySem.W.Frag) (C : Addr) : Sp := fun vs H Q _ => ∃ (a b : Addr) (ds es : List PyData), vs = [.ref a, .ref b] ∧ ScrAt K C H a ds ∧ ScrAt K C H b es ∧ Row (ds ++ es) ∧ ∀ c H', Same H H' → ScrAt K C H' c (ds ++ es) → Q (.ref c) H'
def spWithout (K : PySem.W.Frag) (C : Addr) : Sp := fun vs H Q _ => ∃ (a : Addr) (ds : List PyData) (i : Nat), vs = [.ref a, .int i] ∧ ScrAt K C H a ds ∧ Row ds ∧ i < ds.length ∧ ∀ c H', Same H H' → ScrAt K C H' c (ds.take i ++ ds.drop (i + 1)) → Q (.ref c) H'
section
variable {P : Program} {w : World} {K : PySem.W.Frag} {mg : Str → Option Value} {base : Heap}
/-- a new script -/
theorem scr_made {C x dx : Addr} {H H' : Hp} {v : V} {ds : List PyData} (nx : H x = none) (ndx : H dx = none) (hv : Dp K H v (.tuple ds)) (h : H' x = some (.ins C dx (kf v)))
    (k : ∀ b o, (upd (upd H dx (.own x)) x (.ins C dx [])) b = some o → b ≠ x → H' b = some o) : Same H H' ∧ ScrAt K C H' x ds := by
  have s := Same.made nx ndx k
  exact ⟨s, dx, v, h, s.dp hv⟩
theorem same_ins {C x dx : Addr} {H : Hp} {fs : List (Str × V)} (nx : H x = none) (ndx : H dx = none) : Same H (upd (upd H dx (.own x)) x (.ins C dx fs)) := fun b o e => by
  rw [upd_ne (ne_of_none e nx), upd_ne (ne_of_none e ndx)]; exact e
theorem ok_Script_add (T : Tx K mg) : FnOk P w K mg base CX0 5 T.Script_add.a T.Script_add.fd ["self", "other"] (spAdd K T.c_Script) := by
  have G_Script_init := ok_Script_init (P := P) (w := w) (base := base) T
  refine T.Script_add.F.ok sc_Script_add (fun vs H Q E h => by obtain ⟨a, b, ds, es, rfl, _⟩ := h; rfl) (fun cdv A outer s H vs Q E hr h => ?_)
  obtain ⟨a, b, ds, es, rfl, ⟨dx, v, hx, hv⟩, ⟨dy, u, hy, hu⟩, r, q⟩ := h
  have rl := r.len
  rw [List.length_append] at rl
  refine ⟨_, (pss_cons (ps_if (pt_cmpR op_gt (pe_op op_add (pe_callB (call_lenK K) (by rfl) T.b_len (by decide +kernel) (pa_cons (pe_fldK K (pv 0) rfl) pa_nil)) (pe_callB (call_lenK K) (by rfl) T.b_len (by decide +kernel) (pa_cons (pe_fldK K (pv 1) rfl) pa_nil))) (pe_glob (v := .int 12) rfl T.g_MOST_STEPS ⟨_, rfl⟩) (nomark _))
  (pss_one ps_never)
  pss_nil)
  (pss_one (ps_ret (pe_make T.mk_Script G_Script_init (hr.mono (by first | decide | omega)) rfl T.g_Script T.Script_init.b .nil pass0 (pa_cons (pe_op (op_catK K) (pe_fldK K (pv 0) rfl) (pe_fldK K (pv 1) rfl)) pa_nil))))), ?_⟩
  refine ⟨_, rfl, a, T.c_Script, dx, _, _, rfl, hx, T.cl_Script, T.na_Script_kept_steps, kf_get _, v, ds.length, rfl, hv.len (.inr rfl), _, rfl, b, T.c_Script, dy, _, _, rfl, hy, T.cl_Script, T.na_Script_kept_steps, kf_get _, u, es.length, rfl, hu.len (.inr rfl),
    _, _, rfl, rfl, _, _, rfl, rfl, _, rfl, iteF' (by simp only [decide_eq_false_iff_not]; omega) ?_⟩
  refine ⟨_, rfl, a, T.c_Script, dx, _, _, rfl, hx, T.cl_Script, T.na_Script_kept_steps, kf_get _, _, rfl, b, T.c_Script, dy, _, _, rfl, hy, T.cl_Script, T.na_Script_kept_steps, kf_get _, ?_⟩
  refine catT_go hv hu (by omega) fun w H1 s1 hw => ?_
  intro x dx' nx ndx nex
  refine ⟨x, dx', w, ds ++ es, rfl, upd_same, (same_ins nx ndx).dp hw, r, fun H2 h2 k2 => ⟨rfl, ?_⟩⟩
  obtain ⟨s2, sc⟩ := scr_made nx ndx hw h2 k2
  exact q x H2 (s1.trans s2) sc
theorem ok_Script_without (T : Tx K mg) : FnOk P w K mg base CX0 5 T.Script_without.a T.Script_without.fd ["self", "index"] (spWithout K T.c_Script) := by
  have G_Script_init := ok_Script_init (P := P) (w := w) (base := base) T
  have G_Script_has := ok_Script_has (P := P) (w := w) (base := base) T
  refine T.Script_without.F.ok sc_Script_without (fun vs H Q E h => by obtain ⟨a, ds, i, rfl, _⟩ := h; rfl) (fun cdv A outer s H vs Q E hr h => ?_)
  obtain ⟨a, ds, i, rfl, hs, r, hi, q⟩ := h
  obtain ⟨dx, v, hx, hv⟩ := id hs
  have rl := r.len
  refine ⟨_, (pss_cons (ps_if (pt_not (pt_val (pe_meth (pv 0) T.cl_Script T.Script_has.m G_Script_has (hr.mono (by first | decide | omega)) T.Script_has.b .nil pass0 (pa_cons (pv 1) pa_nil))))
  (pss_one ps_never)
  pss_nil)
  (pss_one (ps_ret (pe_make T.mk_Script G_Script_init (hr.mono (by first | decide | omega)) rfl T.g_Script T.Script_init.b .nil pass0 (pa_cons (pe_op (op_catK K) (pe_slice (sl_tupK K) (pe_fldK K (pv 0) rfl) po_no (po_some (pv 1))) (pe_slice (sl_tupK K) (pe_fldK K (pv 0) rfl) (po_some (pe_op op_add (pv 1) pe_int)) po_no)) pa_nil))))), ?_⟩
  refine ⟨_, rfl, a, dx, _, rfl, hx, kf_no _ (by decide +kernel), _, rfl, a, ds, .int i, "int", rfl, hs, .base (.int _), by decide, fun n => absurd rfl n, ?_⟩
  rintro j ⟨⟩
  refine ⟨_, rfl, iteF' (by simp; omega) ?_⟩
  refine ⟨_, rfl, a, T.c_Script, dx, _, _, rfl, hx, T.cl_Script, T.na_Script_kept_steps, kf_get _, ?_⟩
  refine ⟨_, rfl, _, rfl, ?_⟩
  refine slT_to (n := i) hv rfl fun w1 H1 s1 hw1 => ?_
  refine ⟨_, rfl, a, T.c_Script, dx, _, _, rfl, s1 _ _ hx, T.cl_Script, T.na_Script_kept_steps, kf_get _, ?_⟩
  refine ⟨_, rfl, _, _, rfl, rfl, _, rfl, ?_⟩
  refine slT_from (n := i + 1) (z := (i : Int) + 1) (s1.dp hv) (by omega) fun w2 H2 s2 hw2 => ?_
  refine catT_go (s2.dp hw1) hw2 (by rw [List.length_take, List.length_drop]; omega) fun w3 H3 s3 hw3 => ?_
  intro x dx' nx ndx nex
  have r3 : Row (ds.take i ++ ds.drop (i + 1)) := ⟨fun d hd => by
    rcases List.mem_append.mp hd with hd | hd
    · exact r.st d (List.mem_of_mem_take hd)
    · exact r.st d (List.mem_of_mem_drop hd), by rw [List.length_append, List.length_take, List.length_drop]; omega⟩
  refine ⟨x, dx', w3, _, rfl, upd_same, (same_ins nx ndx).dp hw3, r3, fun H4 h4 k4 => ⟨rfl, ?_⟩⟩
  obtain ⟨s4, sc⟩ := scr_made nx ndx hw3 h4 k4
  exact q x H4 (((s1.trans s2).trans s3).trans s4) sc
end
/-! ### the text of a script -/
def strD : PyData → Str
  | .str s => s
  | _ => ""
def wordsD : PyData → List Str
  | .tuple ds => ds.map strD
  | _ => []
def stepText (d : PyData) : Str := Txt.join " " (wordsD d)
def rowText (ds : List PyData) : Str := if ds = [] then "nothing" else Txt.join ", " (ds.map stepText)
theorem step_words : ∀ d ∈ STEPSD, d = .tuple ((wordsD d).map .str) ∧ ((wordsD d).map (·.length)).sum + (wordsD d).length * 1 ≤ 30 ∧ (stepText d).length ≤ 30 := by
  intro d hd
  simp only [STEPSD, List.mem_cons, List.not_mem_nil, or_false] at hd
  rcases hd with rfl | rfl | rfl | rfl | rfl | rfl | rfl | rfl | rfl | rfl | rfl | rfl <;> (refine ⟨rfl, ?_, ?_⟩ <;> decide +kernel)
theorem dp_strs {K : PySem.W.Frag} {H : Hp} : ∀ {xs : List V} {ys : List Str}, DpAll K H xs (ys.map .str) → xs = ys.map V.str
  | _, [], .nil => rfl
  | _, y :: ys, .cons h t => by rw [h.str_inv, dp_strs t]; rfl
theorem sum_le {n : Nat} : ∀ {ys : List Str}, (∀ y ∈ ys, y.length ≤ n) → (ys.map (·.length)).sum ≤ n * ys.length
  | [], _ => by simp
  | y :: ys, h => by
    have h1 := h y (by simp)
    have h2 := sum_le (ys := ys) fun x hx => h x (List.mem_cons_of_mem y hx)
    rw [List.map_cons, List.sum_cons, List.length_cons, Nat.mul_add]
    omega
/-- " ".join(step) -/
theorem step_join {K : PySem.W.Frag} {H : Hp} {Q : VK} {v : V} {d : PyData} (hd : d ∈ STEPSD) (hv : Dp K H v d) (q : Q (.str (stepText d)) H) : rJoin K (.str " ") [v] H Q := by
  obtain ⟨e, hl, _⟩ := step_words d hd
  rw [e] at hv
  obtain ⟨a, xs, rfl, ha, hxs⟩ := hv.tup_inv
  rw [dp_strs hxs] at ha
  exact ⟨_, a, wordsD d, rfl, rfl, .inr ha, Nat.le_trans hl (by decide), q⟩
end Y

namespace Y
open PySem L2
def spText (K : PySem.W.Frag) (C : Addr) : Sp := fun vs H Q _ => ∃ (a : Addr) (ds : List PyData), vs = [.ref a] ∧ ScrAt K C H a ds ∧ (∀ d ∈ ds, d ∈ STEPSD) ∧ ds.length ≤ 1000 ∧ ∀ H', Same H H' → Q (.str (rowText ds)) H'
theorem row_sum {ds : List PyData} (h : ∀ d ∈ ds, d ∈ STEPSD) (hl : ds.length ≤ 1000) : ((ds.map stepText).map (·.length)).sum + (ds.map stepText).length * ((", " : Str)).length ≤ 16777216 := by
  have h1 := sum_le (n := 30) (ys := ds.map stepText) fun y hy => by
    obtain ⟨d, hd, rfl⟩ := List.mem_map.mp hy
    exact (step_words d (h d hd)).2.2
  rw [List.length_map] at h1 ⊢
  have : ((", " : Str)).length = 2 := by decide +kernel
  rw [this]
  omega
section
variable {P : Program} {w : World} {K : PySem.W.Frag} {mg : Str → Option Value} {base : Heap}
theorem ok_script_text (T : Tx K mg) : FnOk P w K mg base CX0 3 T.script_text.a T.script_text.fd ["script"] (spText K T.c_Script) := by
  have G_Script_len := ok_Script_len (P := P) (w := w) (base := base) T
  have G_Script_steps := ok_Script_steps (P := P) (w := w) (base := base) T
  refine T.script_text.F.ok sc_script_text (fun vs H Q E h => by obtain ⟨a, ds, rfl, _⟩ := h; rfl) (fun cdv A outer s H vs Q E hr h => ?_)
  obtain ⟨a, ds, rfl, hs, hst, hl, q⟩ := h
  obtain ⟨dx, v, hx, hv⟩ := id hs
  obtain ⟨b, xs, rfl, hb, hxs⟩ := hv.tup_inv
  have hlen := hxs.length
  refine ⟨_, (pss_one (ps_ret (pe_ifExp (pt_cmpR op_gt (pe_callB (call_lenO T.Script_len.spc G_Script_len (hr.mono (by first | decide | omega)) T.Script_len.b pass0) (by rfl) T.b_len (by decide +kernel) (pa_cons (pv 0) pa_nil)) pe_int (nomark _)) (pe_joinK K (pe_glob (v := .str ", ") rfl T.g_BETWEEN ⟨_, rfl⟩) (pe_lc (own := [("step", 1)]) (g := (gName 1)) (tt := tYes) rfl sc_script_text.nd (pi_tupK K (pe_meth0 (pv 0) T.cl_Script T.Script_steps.m G_Script_steps (hr.mono (by first | decide | omega)) T.Script_steps.b .nil pass0)) (blkOk_by (N := ["script", "step"]) (sc := defScope s_script_text) (by decide +kernel)) (fun _ _ _ _ _ => pg_name (i := 1) sc_script_text.nd rfl (Or.inl rfl)) (fun _ _ _ _ _ => pts_nil) (fun _ _ _ _ _ => (pe_joinK K pe_str (pv 1))))) (pe_glob (v := .str "nothing") rfl T.g_NOTHING ⟨_, rfl⟩)))), ?_⟩
  refine ⟨_, rfl, a, dx, _, rfl, hx, a, ds, rfl, hs, (ds.length : Int), rfl, by omega, by omega, _, _, rfl, rfl, _, rfl, ite2 (fun c => ?_) (fun c => ?_)⟩
  · have c := of_decide_eq_true c
    have hne : ds ≠ [] := by rintro rfl; simp at c
    refine ⟨⟨_, rfl⟩, _, rfl, a, dx, _, rfl, hx, kf_no _ (by decide +kernel), a, dx, .ref b, rfl, hx, b, rfl, ⟨_, hb⟩, fun D nD => ?_⟩
    refine lc_tup (K := K) (a := b) (xs := xs) (fun i H' => Same H H' ∧ H' D = some (.lst ((ds.take i).map fun d => .str (stepText d)))) ⟨Same.new nD, by simp [upd_same]⟩ (fun i H' _ ⟨s, _⟩ => s.sqT hb) ?_ ?_
    · rintro i y H' hi ⟨s, hD⟩
      obtain ⟨d, h1, h2⟩ := hxs.get' hi
      have hm := hst d (List.mem_of_getElem? h1)
      refine ⟨rfl, ⟨_, rfl⟩, _, rfl, ?_⟩
      refine step_join hm (s.dp h2) ⟨_, hD, ?_, ?_⟩
      · refine line_lt ?_
        rw [List.length_map, List.length_take]; omega
      · refine ⟨s.mut nD, ?_⟩
        rw [upd_same, List.take_add_one, h1]
        simp
    · rintro H' ⟨s, hD⟩
      rw [hlen, List.take_length] at hD
      refine ⟨_, D, ds.map stepText, rfl, rfl, .inl (SqL.of (by rw [hD, List.map_map]; rfl)), row_sum hst hl, ?_⟩
      have := q H' s
      rw [rowText, if_neg hne] at this
      exact this
  · have c : ¬ ((0 : Int) < ds.length) := fun h => c (decide_eq_true h)
    obtain rfl : ds = [] := by
      cases ds with
      | nil => rfl
      | cons _ _ => rw [List.length_cons] at c; omega
    exact q H (Same.refl H)
end
end Y

namespace Y
open PySem L2
local macro_rules | `(tactic| walk_at "y") => `(tactic| repeat (first | refine ⟨_, rfl, ?_⟩ | refine ⟨_, _, rfl, rfl, ?_⟩ | refine Or.inl ⟨_, rfl, ?_⟩))
/-- a well with at most B turns -/
def WellAt (H : Hp) (p : Addr) (B : Int) : Prop := ∃ w0 w1 w2 : Int, H p = some (.lst [.int w0, .int w1, .int w2]) ∧ 0 ≤ w1 ∧ w1 < 2 ^ 200 ∧ 0 ≤ w2 ∧ w2 ≤ B
theorem WellAt.mono {H : Hp} {p : Addr} {B B' : Int} (h : WellAt H p B) (hb : B ≤ B') : WellAt H p B' := by
  obtain ⟨w0, w1, w2, h1, h2, h3, h4, h5⟩ := h
  exact ⟨w0, w1, w2, h1, h2, h3, h4, Int.le_trans h5 hb⟩
theorem WellAt.mut {H : Hp} {p : Addr} {B : Int} (h : WellAt H p B) : Mut (H p) := by
  obtain ⟨w0, w1, w2, h1, _⟩ := h
  rw [h1]; trivial
theorem WellAt.same {H H' : Hp} {p : Addr} {B : Int} (h : WellAt H p B) (s : Same H H') : WellAt H' p B := by
  obtain ⟨w0, w1, w2, h1, h2⟩ := h
  exact ⟨w0, w1, w2, s _ _ h1, h2⟩
def spWell (K : PySem.W.Frag) : Sp := fun vs H Q _ => ∃ (a : Addr) (ns : List Int) (k : Int), vs = [.ref a, .int k] ∧ SqL K H a (ns.map V.int) ∧ ns.length ≤ 63 ∧ 0 ≤ k ∧ k ≤ 1000 ∧
  ∀ (p : Addr) (H' : Hp), H p = none → Same H H' → WellAt H' p 0 → Q (.ref p) H'
def spDraw : Sp := fun vs H Q _ => ∃ (p : Addr) (many B : Int), vs = [.ref p, .int many] ∧ WellAt H p B ∧ B < 2 ^ 60 ∧ 0 < many ∧ many < 2 ^ 200 ∧
  ∀ (r : Int) (H' : Hp), 0 ≤ r → r < many → WellAt H' p (B + 1) → But p H H' → Q (.int r) H'
section
variable {P : Program} {w : World} {K : PySem.W.Frag} {mg : Str → Option Value} {base : Heap}
theorem ok_well (T : Tx K mg) : FnOk P w K mg base CX0 1 T.well.a T.well.fd ["script", "k"] (spWell K) := by
  refine T.well.F.ok sc_well (fun vs H Q E h => by obtain ⟨a, ns, k, rfl, _⟩ := h; rfl) (fun cdv A outer s H vs Q E hr h => ?_)
  obtain ⟨a, ns, k, rfl, hS, hlen, hk0, hk1, q⟩ := h
  have fin : ∀ deep : Int, ∀ p, H p = none → WellAt (upd H p (.lst [.int (if deep - 10 ^ 18 > 0 then deep - 10 ^ 18 else 0), .int (deep % (10 ^ 27 + 103) + 65537 * k), .int 0])) p 0 := by
    intro deep p hp
    refine ⟨_, _, _, upd_same, ?_, ?_, by decide, by decide⟩
    · have := Int.emod_nonneg deep (show (10 ^ 27 + 103 : Int) ≠ 0 by decide); omega
    · have := Int.emod_lt_of_pos deep (show (0 : Int) < 10 ^ 27 + 103 by decide)
      have : (2 : Int) ^ 200 > 10 ^ 27 + 103 + 65537 * 1000 := by decide
      omega
  refine ⟨_, (pss_cons (ps_set (i := 2) sc_well.nd rfl (Or.inl rfl) pe_int)
  (C8.pss_cut (ps_if (pt_cmpR op_lt (pv 1) (pe_callB (call_lenK K) (by rfl) T.b_len (by decide +kernel) (pa_cons (pv 0) pa_nil)) (nomark _))
  (pss_one (ps_set (i := 2) sc_well.nd rfl (Or.inl rfl) (pe_callTy call_int1 (by rfl) T.b_int (by decide +kernel) (pa_cons (pe_ix (ix_listK K) (pv 0) (pv 1) (fun _ _ => rfl)) pa_nil))))
  pss_nil)
  (pss_cons (ps_set (i := 3) sc_well.nd rfl (Or.inl rfl) (pe_op op_mul pe_int (pv 2)))
  (C8.pss_cut (ps_if (pt_cmpR op_lt (pv 2) pe_int (nomark _))
  (pss_one (ps_set (i := 3) sc_well.nd rfl (Or.inl rfl) (pe_op op_sub (pe_op op_mul (pe_un un_neg pe_int) (pv 2)) pe_int)))
  pss_nil)
  (pss_one (ps_ret (pe_lst (pa_cons (pe_callB (call_max2 rfl) (by rfl) T.b_max (by decide +kernel) (pa_cons pe_int (pa_cons (pe_op op_sub (pv 3) (pe_op op_powW pe_int pe_int)) pa_nil))) (pa_cons (pe_op op_add (pe_op op_mod (pe_callTy call_int1 (by rfl) T.b_int (by decide +kernel) (pa_cons (pv 3) pa_nil)) (pe_op op_add (pe_op op_powW pe_int pe_int) pe_int)) (pe_op op_mul pe_int (pv 1))) (pa_cons pe_int pa_nil)))))))))), ?_⟩
  refine ⟨fun σ' H' => H' = H ∧ ∃ cell : Int, σ' = [some (.ref a), some (.int k), some (.int cell), none], ?_, ?_⟩
  · refine ⟨_, rfl, _, rfl, _, _, rfl, .inl ⟨_, hS, rfl⟩, _, _, rfl, rfl, _, rfl, ite2 (fun c => ?_) (fun c => ?_)⟩
    · have c := of_decide_eq_true c
      rw [List.length_map] at c
      obtain ⟨j, rfl⟩ : ∃ j : Nat, k = (j : Int) := ⟨k.toNat, by omega⟩
      have hj : j < ns.length := by omega
      refine ⟨_, rfl, _, rfl, a, _, _, .int ns[j], rfl, rfl, hS, atI_nat (by rw [List.getElem?_map, List.getElem?_eq_getElem hj]; rfl), .inl ⟨_, rfl, ?_⟩⟩
      exact ⟨rfl, _, rfl⟩
    · exact ⟨rfl, _, rfl⟩
  · rintro σ' H' ⟨rfl, cell, rfl⟩
    refine ⟨_, rfl, _, _, rfl, rfl, .inl (by decide), ?_⟩
    refine ⟨fun σ' H1 => H1 = H' ∧ ∃ deep : Int, σ' = [some (.ref a), some (.int k), some (.int cell), some (.int deep)], ?_, ?_⟩
    · refine ⟨_, rfl, _, _, rfl, rfl, _, rfl, ite2 (fun c => ?_) (fun c => ?_)⟩
      · exact ⟨_, rfl, _, rfl, _, _, rfl, rfl, .inl (by decide), _, _, rfl, rfl, rfl, _, rfl⟩
      · exact ⟨rfl, _, rfl⟩
    · rintro σ' H1 ⟨rfl, deep, rfl⟩
      refine ⟨_, rfl, _, _, rfl, rfl, ⟨by decide, by decide⟩, _, _, rfl, rfl, _, _, rfl, ?_⟩
      refine ⟨_, rfl, .inl ⟨_, rfl, _, _, rfl, rfl, ⟨by decide, by decide⟩, _, _, rfl, rfl, _, _, rfl, rfl, (by show (0 : Int) < 10 ^ (27 : Int).toNat + 103; decide), _, rfl, _, _, rfl, rfl, .inl (by decide), _, _, rfl, rfl, by show 3 ≤ sizeLine; decide, fun p hp => ?_⟩⟩
      exact q p _ hp (Same.new hp) (fin deep p hp)
theorem ok_draw (T : Tx K mg) : FnOk P w K mg base CX0 1 T.draw.a T.draw.fd ["well", "many"] spDraw := by
  refine T.draw.F.ok sc_draw (fun vs H Q E h => by obtain ⟨p, many, B, rfl, _⟩ := h; rfl) (fun cdv A outer s H vs Q E hr h => ?_)
  obtain ⟨p, many, B, rfl, hw, hB, hm0, hm1, k⟩ := h
  have hmu := hw.mut
  obtain ⟨w0, w1, w2, hp, h10, h11, h20, h21⟩ := hw
  have i0 : ∀ {l : List V} {x : V}, l[0]? = some x → atI l 0 = some x := fun h => atI_nat (j := 0) h
  have i1 : ∀ {l : List V} {x : V}, l[1]? = some x → atI l 1 = some x := fun h => atI_nat (j := 1) h
  have i2 : ∀ {l : List V} {x : V}, l[2]? = some x → atI l 2 = some x := fun h => atI_nat (j := 2) h
  have c9 : CPowW 10 9 := ⟨by decide, by decide⟩
  have c38 : CPowW 10 38 := ⟨by decide, by decide⟩
  have c40 : CPowW 10 40 := ⟨by decide, by decide⟩
  refine ⟨_, (pss_cons (ps_if (pt_cmpR op_gt (pe_ix (ix_listK K) (pv 0) pe_int (fun _ _ => rfl)) pe_int (nomark _))
  (pss_cons (ps_set (i := 2) sc_draw.nd rfl (Or.inl rfl) (pe_op op_mod (pe_callTy call_int1 (by rfl) T.b_int (by decide +kernel) (pa_cons (pe_ix (ix_listK K) (pv 0) pe_int (fun _ _ => rfl)) pa_nil)) (pv 1)))
  (pss_cons (ps_asg (pe_op op_fdivW (pe_ix (ix_listK K) (pv 0) pe_int (fun _ _ => rfl)) (pv 1)) (pg_sub (pv 0) pe_int set_list))
  (pss_one (ps_ret (pv 2)))))
  pss_nil)
  (pss_cons (ps_set (i := 3) sc_draw.nd rfl (Or.inl rfl) (pe_op op_add (pe_ix (ix_listK K) (pv 0) pe_int (fun _ _ => rfl)) pe_int))
  (pss_cons (ps_asg (pv 3) (pg_sub (pv 0) pe_int set_list))
  (C8.pss_cut (ps_set (i := 4) sc_draw.nd rfl (Or.inl rfl) (pe_op op_mod (pe_callTy call_int1 (by rfl) T.b_int (by decide +kernel) (pa_cons (pe_op op_add (pe_op op_powW (pe_op op_add (pe_ix (ix_listK K) (pv 0) pe_int (fun _ _ => rfl)) (pe_op op_mul pe_int (pv 3))) pe_int) (pe_op op_mul pe_int (pv 3))) pa_nil)) (pe_op op_add (pe_op op_powW pe_int pe_int) pe_int)))
  (C8.pss_cut (ps_set (i := 4) sc_draw.nd rfl (Or.inl rfl) (pe_op op_mod (pe_callTy call_int1 (by rfl) T.b_int (by decide +kernel) (pa_cons (pe_op op_powW (pe_op op_add (pv 4) (pe_op op_mul pe_int (pv 3))) pe_int) pa_nil)) (pe_op op_add (pe_op op_powW pe_int pe_int) pe_int)))
  (pss_one (ps_ret (pe_op op_mod (pe_callTy call_int1 (by rfl) T.b_int (by decide +kernel) (pa_cons (pe_op op_fdivW (pv 4) (pe_op op_powW pe_int pe_int)) pa_nil)) (pv 1))))))))), ?_⟩
  refine ⟨_, rfl, _, _, _, _, rfl, rfl, SqL.of hp, i0 rfl, _, _, rfl, rfl, _, rfl, ite2 (fun c => ?_) (fun c => ?_)⟩
  · have c := of_decide_eq_true c
    refine ⟨_, rfl, _, _, _, _, rfl, rfl, SqL.of hp, i0 rfl, .inl ⟨_, rfl, _, rfl, _, _, rfl, rfl, hm0, ?_⟩⟩
    refine ⟨_, rfl, _, _, _, _, rfl, rfl, SqL.of hp, i0 rfl, _, rfl, _, _, rfl, rfl, wide_div hm0 (b := 200) (by omega) (by decide) (by decide), ?_⟩
    refine ⟨_, rfl, p, _, 0, 0, rfl, rfl, hp, rfl, _, rfl, ?_⟩
    exact k _ _ (Int.emod_nonneg _ (by omega)) (Int.emod_lt_of_pos _ hm0) ⟨_, _, _, upd_same, h10, h11, h20, by omega⟩ (But.mut hmu)
  · refine ⟨_, rfl, _, _, _, _, rfl, rfl, SqL.of hp, i2 rfl, _, _, rfl, rfl, ?_⟩
    refine ⟨_, rfl, _, rfl, p, _, 2, 2, rfl, rfl, hp, rfl, ?_⟩
    -- mixed = int((well[1] + 15485863 * turn) ** 3 + 982451653 * turn) % (10 ** 40 + 121)
    have b1 : CPowW (w1 + 15485863 * (w2 + 1)) 3 := powW (a := 201) (by omega) (by decide) (by decide) (by decide)
    refine ⟨fun σ' H' => H' = upd H p (.lst [.int w0, .int w1, .int (w2 + 1)]) ∧ ∃ M : Int, 0 ≤ M ∧ M < 10 ^ 41 ∧ σ' = [some (.ref p), some (.int many), none, some (.int (w2 + 1)), some (.int M)], ?_, ?_⟩
    · refine ⟨_, rfl, _, _, _, _, rfl, rfl, SqL.of upd_same, i1 rfl, _, rfl, _, _, rfl, rfl, .inl (by decide), _, _, rfl, rfl, _, _, rfl, rfl, b1, _, rfl, _, _, rfl, rfl, .inl (by decide), _, _, rfl, rfl, .inl ⟨_, rfl, _, _, rfl, rfl, c40, _, _, rfl, rfl, _, _, rfl, rfl, (by show (0 : Int) < 10 ^ (40 : Int).toNat + 121; decide), ?_⟩⟩
      refine ⟨rfl, _, Int.emod_nonneg _ (by decide), Int.lt_of_lt_of_le (Int.emod_lt_of_pos _ (by decide)) (by decide), rfl⟩
    rintro σ' H' ⟨rfl, M, m0, m1, rfl⟩
    have b2 : CPowW (M + 32452843 * (w2 + 1)) 3 := powW (a := 201) (by omega) (by decide) (by decide) (by decide)
    refine ⟨fun σ' H' => H' = upd H p (.lst [.int w0, .int w1, .int (w2 + 1)]) ∧ ∃ M : Int, σ' = [some (.ref p), some (.int many), none, some (.int (w2 + 1)), some (.int M)], ?_, ?_⟩
    · refine ⟨_, rfl, _, rfl, _, _, rfl, rfl, .inl (by decide), _, _, rfl, rfl, _, _, rfl, rfl, b2, .inl ⟨_, rfl, _, _, rfl, rfl, c38, _, _, rfl, rfl, _, _, rfl, rfl, (by show (0 : Int) < 10 ^ (38 : Int).toNat + 133; decide), ?_⟩⟩
      exact ⟨rfl, _, rfl⟩
    rintro σ' H' ⟨rfl, M2, rfl⟩
    refine ⟨_, rfl, _, _, rfl, rfl, c9, _, _, rfl, rfl, wide_div (b := 200) (by decide) (by decide) (by decide) (by decide), .inl ⟨_, rfl, _, rfl, _, _, rfl, rfl, hm0, ?_⟩⟩
    exact k _ _ (Int.emod_nonneg _ (by omega)) (Int.emod_lt_of_pos _ hm0) ⟨_, _, _, upd_same, h10, h11, by omega, by omega⟩ (But.mut hmu)
end
end Y
namespace Y
open PySem L2
local macro_rules | `(tactic| walk_at "gv") => `(tactic| repeat' (first
  | exact gv_int | exact gv_str | exact gv_bl | exact gv_non | exact gs_nil | exact gv_varI rfl | exact gv_varS rfl | exact gv_varB rfl | exact gv_varN rfl
  | exact gv_var rfl (by assumption) | refine gs_cons ?_ ?_ | (refine gv_tup ?_ ?_; rotate_left; · first | (simp; done) | decide +kernel) | (refine gv_lst ?_ ?_; rotate_left; · first | (simp; done) | decide +kernel) | (refine gl_lst ?_ ?_; rotate_left; · first | (simp; done) | decide +kernel)))
def MENUD : List PyData := [.tuple [.str "make", .str "all"], .tuple [.str "make", .str "standing"], .tuple [.str "drop"], .tuple [.str "start", .str "new"], .tuple [.str "start", .str "all"], .tuple [.str "start", .str "free"], .tuple [.str "label", .str "new"], .tuple [.str "label", .str "all"], .tuple [.str "label", .str "free"], .tuple [.str "tie", .str "new"], .tuple [.str "tie", .str "all"], .tuple [.str "tie", .str "free"]]
theorem menu_step : ∀ d ∈ MENUD, d ∈ STEPSD := by
  intro d hd
  simp only [MENUD, List.mem_cons, List.not_mem_nil, or_false] at hd
  rcases hd with rfl | rfl | rfl | rfl | rfl | rfl | rfl | rfl | rfl | rfl | rfl | rfl <;> simp [STEPSD]
def spMenu (K : PySem.W.Frag) : Sp := fun vs H Q _ => vs = [] ∧ ∀ p xs H', H p = none → Same H H' → H' p = some (.lst xs) → DpAll K H' xs MENUD → Q (.ref p) H'
def WORDS3 : List Str := ["start", "label", "tie"]
section
variable {P : Program} {w : World} {K : PySem.W.Frag} {mg : Str → Option Value} {base : Heap}
theorem ok_menu (T : Tx K mg) : FnOk P w K mg base CX0 1 T.menu.a T.menu.fd [] (spMenu K) := by
  refine T.menu.F.ok sc_menu (fun vs H Q E h => by obtain ⟨rfl, _⟩ := h; rfl) (fun cdv A outer s H vs Q E hr h => ?_)
  obtain ⟨rfl, q⟩ := h
  refine ⟨_, (pss_cons (ps_set (i := 0) sc_menu.nd rfl (Or.inl rfl) (pe_lst (pa_cons (pe_tup (pa_cons pe_str (pa_cons pe_str pa_nil))) (pa_cons (pe_tup (pa_cons pe_str (pa_cons pe_str pa_nil))) (pa_cons (pe_tup (pa_cons pe_str pa_nil)) pa_nil)))))
  (pss_cons (ps_for PassesOwn.never rfl (pi_listK K (pe_lst (pa_cons pe_str (pa_cons pe_str (pa_cons pe_str pa_nil))))) (pg_name (i := 1) sc_menu.nd rfl (Or.inl rfl))
  (pss_one (ps_expr (pe_bm PySem.F.plainAttrs_list PySem.F.slot_list_extend PySem.F.type_list_extend mt_extend (pv 0) (pa_cons (pe_lst (pa_cons (pe_tup (pa_cons (pv 1) (pa_cons pe_str pa_nil))) (pa_cons (pe_tup (pa_cons (pv 1) (pa_cons pe_str pa_nil))) (pa_cons (pe_tup (pa_cons (pv 1) (pa_cons pe_str pa_nil))) pa_nil)))) pa_nil)))))
  (pss_one (ps_ret (pv 0))))), ?_⟩
  refine Gl1.go (K := K) (ds := MENUD.take 3) (by walk_at "gv") fun p xs H1 np s1 hp hxs => ?_
  dsimp only [tSeq, tFor, iList]
  refine Gl1.go (K := K) (ds := WORDS3.map .str) (by walk_at "gv") fun l ys H2 nl s2 hl hys => ?_
  have hpl : p ≠ l := ne_of_none hp nl
  obtain rfl : ys = WORDS3.map V.str := by
    cases hys with | cons h1 t1 => cases t1 with | cons h2 t2 => cases t2 with | cons h3 t3 => cases t3; rw [h1.str_inv, h2.str_inv, h3.str_inv]; rfl
  refine ⟨l, rfl, ⟨_, SqL.of hl⟩, for_list (K := K) (a := l) (xs := WORDS3.map V.str) (fun i σ H' => ∃ xs v, σ = [some (.ref p), v] ∧ Same H H' ∧ H' p = some (.lst xs) ∧ H' l = some (.lst (WORDS3.map V.str)) ∧ DpAll K H' xs (MENUD.take (3 + 3 * i)))
    ⟨xs, none, rfl, s1.trans s2, s2 _ _ hp, hl, s2.dpAll hxs⟩ (fun i σ H' _ ⟨_, _, _, _, _, h, _⟩ => SqL.of h) ?_ ?_⟩
  · rintro i x σ H' hi ⟨xs, v, rfl, s3, h1, h2, h3⟩
    obtain ⟨wd, hw, rfl⟩ : ∃ wd, WORDS3[i]? = some wd ∧ x = .str wd := by
      rw [List.getElem?_map] at hi
      cases e : WORDS3[i]? with
      | none => rw [e] at hi; cases hi
      | some wd => rw [e] at hi; exact ⟨wd, rfl, (Option.some.inj hi).symm⟩
    refine ⟨_, rfl, .inl ⟨rfl, _, SqL.of h1⟩, ?_⟩
    refine Gl1.go (K := K) (ds := [.tuple [.str wd, .str "new"], .tuple [.str wd, .str "all"], .tuple [.str wd, .str "free"]]) (by walk_at "gv") fun b zs H4 nb s4 hb hzs => ?_
    have e : (MENUD.take (3 + 3 * i)) ++ [.tuple [.str wd, .str "new"], .tuple [.str wd, .str "all"], .tuple [.str wd, .str "free"]] = MENUD.take (3 + 3 * (i + 1)) := by
      match i, hw with
      | 0, hw => cases hw; rfl
      | 1, hw => cases hw; rfl
      | 2, hw => cases hw; rfl
      | i + 3, hw => simp [WORDS3] at hw
    have hxl := h3.length
    have hzl := hzs.length
    refine ⟨p, b, xs, zs, rfl, rfl, s4 _ _ h1, hb, ?_, ?_⟩
    · refine line_of ?_
      rw [hxl, hzl, List.length_take]; simp [MENUD]; omega
    · refine ⟨_, _, rfl, ?_, upd_same, ?_, ?_⟩
      · exact (s3.trans s4).mut np
      · rw [upd_ne hpl.symm]; exact s4 _ _ h2
      · rw [← e]
        have t : Tups H4 (upd H4 p (.lst (xs ++ zs))) := Tups.mut (by rw [s4 _ _ h1]; trivial)
        exact (t.dpAll (imm_all fun d hd => (step_is d (menu_step d (List.mem_of_mem_take hd))).2.2.1) (s4.dpAll h3)).append (t.dpAll (by simp [immAll, imm]) hzs)
  · rintro σ H' ⟨xs, v, rfl, s3, h1, h2, h3⟩
    exact ⟨_, rfl, q p xs H' np s3 h1 h3⟩
def spRow (K : PySem.W.Frag) : Sp := fun vs H Q _ => ∃ (p : Addr) (most B : Int), vs = [.ref p, .int most] ∧ WellAt H p B ∧ B < 2 ^ 50 ∧ 0 ≤ most ∧ most ≤ 100 ∧
  ∀ v ds H', But p H H' → WellAt H' p (B + 200) → Dp K H' v (.tuple ds) → (∀ d ∈ ds, d ∈ STEPSD) → (ds.length : Int) ≤ most → Q v H'
theorem steps_imm {ds : List PyData} (h : ∀ d ∈ ds, d ∈ STEPSD) : immAll ds = true := imm_all fun d hd => (step_is d (h d hd)).2.2.1
theorem ok_row (T : Tx K mg) : FnOk P w K mg base CX0 2 T.row.a T.row.fd ["well", "most"] (spRow K) := by
  have G_menu := ok_menu (P := P) (w := w) (base := base) T
  have G_draw := ok_draw (P := P) (w := w) (base := base) T
  refine T.row.F.ok sc_row (fun vs H Q E h => by obtain ⟨p, most, B, rfl, _⟩ := h; rfl) (fun cdv A outer s H vs Q E hr h => ?_)
  obtain ⟨p, most, B, rfl, hw, hB, hm0, hm1, q⟩ := h
  obtain ⟨w0, w1, w2, hp, _⟩ := id hw
  refine ⟨_, (pss_cons (ps_par3 (i := 2) (j := 3) (l := 4) rfl sc_row.nd rfl rfl rfl (by decide) (by decide) (by decide) rfl rfl rfl (pa_cons (pe_call0 G_menu (hr.mono (by first | decide | omega)) rfl T.menu.g T.menu.F.kp T.menu.b .nil pass0) (pa_cons (pe_op op_add pe_int (pe_call G_draw (hr.mono (by first | decide | omega)) rfl T.draw.g T.draw.F.kp T.draw.b .nil pass0 (pa_cons (pv 0) (pa_cons pe_int pa_nil)))) (pa_cons (pe_lst pa_nil) pa_nil))) rfl)
  (pss_cons (ps_for PassesOwn.never rfl (pi_range1 (by rfl) T.b_range (pa_cons (pe_call G_draw (hr.mono (by first | decide | omega)) rfl T.draw.g T.draw.F.kp T.draw.b .nil pass0 (pa_cons (pv 0) (pa_cons (pe_op op_add (pv 1) pe_int) pa_nil))) pa_nil)) (pg_name (i := 5) sc_row.nd rfl (Or.inl rfl))
  (pss_one (ps_expr (pe_bm PySem.F.plainAttrs_list PySem.F.slot_list_append PySem.F.type_list_append mt_append (pv 4) (pa_cons (pe_ix (ix_listK K) (pv 2) (pe_op op_mod (pe_callTy call_int1 (by rfl) T.b_int (by decide +kernel) (pa_cons (pe_op op_mul (pe_call G_draw (hr.mono (by first | decide | omega)) rfl T.draw.g T.draw.F.kp T.draw.b .nil pass0 (pa_cons (pv 0) (pa_cons (pv 3) pa_nil))) pe_int) pa_nil)) pe_int) (fun _ _ => rfl)) pa_nil)))))
  (pss_one (ps_ret (pe_callTy (call_tupK K) (by rfl) T.b_tuple (by decide +kernel) (pa_cons (pv 4) pa_nil)))))), ?_⟩
  refine ⟨rfl, fun m xs H1 nm s1 hm hxs => ?_⟩
  have hpm : p ≠ m := ne_of_none hp nm
  refine ⟨_, rfl, p, 12, B, rfl, hw.same s1, by omega, by decide, by decide, fun few H2 f0 f1 w2' b2 => ⟨_, _, rfl, rfl, by decide, fun f hf => ?_⟩⟩
  have hm2 : H2 m = some (.lst xs) := b2.keep _ _ hm hpm.symm
  have hmf : m ≠ f := ne_of_none hm2 hf
  obtain ⟨_, _, _, hp2, _⟩ := id w2'
  have hpf : p ≠ f := ne_of_none hp2 hf
  have b12 : But p H H2 := s1.but.trans b2
  have nf : H f = none := b12.free hpf hf
  refine ⟨_, _, _, rfl, ?_⟩
  have w3 : WellAt (upd H2 f (.lst [])) p (B + 1) := w2'.same (Same.new hf)
  refine ⟨_, rfl, _, rfl, _, _, rfl, rfl, p, most + 1, B + 1, rfl, w3, by omega, by omega, by omega, fun n H3 n0 n1 w4 b4 => ?_⟩
  have hf3 : H3 f = some (.lst []) := b4.keep _ _ upd_same hpf.symm
  have hm3 : H3 m = some (.lst xs) := b4.keep _ _ (by rw [upd_ne hmf]; exact hm2) hpm.symm
  have b13 : But p H H3 := (b12.new nf (.inl hf)).trans b4
  have dm3 : DpAll K H3 xs MENUD := (b2.tups.trans ((Same.new hf).tups.trans b4.tups)).dpAll (steps_imm menu_step) hxs
  refine ⟨n, rfl, by omega, by omega, for_range (n := n.toNat) (fun i σ H' => ∃ ys es v, σ = [some (.ref p), some (.int most), some (.ref m), some (.int (1 + few)), some (.ref f), v] ∧ But p H H' ∧ WellAt H' p (B + 2 + i) ∧ H' m = some (.lst xs) ∧ DpAll K H' xs MENUD ∧ H' f = some (.lst ys) ∧ DpAll K H' ys es ∧ (∀ d ∈ es, d ∈ STEPSD) ∧ es.length = i)
    ⟨[], [], none, rfl, b13, w4.mono (by omega), hm3, dm3, hf3, .nil, by simp, rfl⟩ ?_ ?_⟩
  · rintro i σ H' hi ⟨ys, es, v, rfl, b, wl, h1, h2, h3, h4, h5, h6⟩
    refine ⟨_, rfl, .inl ⟨rfl, _, SqL.of h3⟩, ?_⟩
    refine ⟨_, rfl, _, rfl, _, rfl, p, 1 + few, B + 2 + i, rfl, wl, by omega, by omega, by omega, fun r H4 r0 r1 w5 b5 => ?_⟩
    refine ⟨_, _, rfl, rfl, .inr (by decide), .inl ⟨_, rfl, _, _, rfl, rfl, (by show (0 : Int) < 12; decide), ?_⟩⟩
    have hm4 : H4 m = some (.lst xs) := b5.keep _ _ h1 hpm.symm
    have hf4 : H4 f = some (.lst ys) := b5.keep _ _ h3 hpf.symm
    have dm4 := b5.tups.dpAll (steps_imm menu_step) h2
    have x0 := Int.emod_nonneg (r * 5) (show (12 : Int) ≠ 0 by decide)
    have x1 := Int.emod_lt_of_pos (r * 5) (show (0 : Int) < 12 by decide)
    obtain ⟨j, hj⟩ : ∃ j : Nat, (r * 5) % 12 = (j : Int) := ⟨((r * 5) % 12).toNat, by omega⟩
    have hjl : j < MENUD.length := by simp [MENUD]; omega
    obtain ⟨u, hu1, hu2⟩ := dm4.get (List.getElem?_eq_getElem hjl)
    have hyl := h4.length
    refine ⟨m, xs, _, u, rfl, rfl, SqL.of hm4, at_of hj hu1, f, ys, u, rfl, rfl, hf4, line_lt (by omega), ?_⟩
    have mf : Mut (H4 f) := by rw [hf4]; trivial
    have t : Tups H4 (upd H4 f (.lst (ys ++ [u]))) := Tups.mut mf
    refine ⟨_, es ++ [MENUD[j]], _, rfl, (b.trans b5).new nf (.inr mf), ?_, ?_, t.dpAll (steps_imm menu_step) dm4, upd_same, ?_, ?_, ?_⟩
    · obtain ⟨z0, z1, z2, e1, e2, e3, e4, e5⟩ := w5
      exact ⟨z0, z1, z2, by rw [upd_ne hpf]; exact e1, e2, e3, e4, by omega⟩
    · rw [upd_ne hmf]; exact hm4
    · have hj2 : MENUD[j] ∈ STEPSD := menu_step _ (List.getElem_mem hjl)
      exact (t.dpAll (steps_imm h5) (b5.tups.dpAll (steps_imm h5) h4)).append (.one (t.dp (step_is _ hj2).2.2.1 hu2))
    · intro d hd
      rcases List.mem_append.mp hd with hd | hd
      · exact h5 d hd
      · rw [List.mem_singleton.mp hd]; exact menu_step _ (List.getElem_mem hjl)
    · rw [List.length_append, h6]; rfl
  · rintro σ H' ⟨ys, es, v, rfl, b, wl, h1, h2, h3, h4, h5, h6⟩
    refine ⟨_, rfl, f, ys, rfl, .inl ⟨SqL.of h3, fun l hl => ?_⟩⟩
    refine q (.ref l) es _ (b.trans (Same.new hl).but) ((wl.same (Same.new hl)).mono (by omega)) (.tupOf upd_same ((Same.new hl).dpAll h4)) h5 (by omega)
end
end Y

namespace Y
open PySem L2
/-- same data, to a depth -/
def okS : Nat → PyData → Bool
  | 0, _ => false
  | _, .str _ => true
  | _, .int _ => true
  | _, .bool _ => true
  | n + 1, .list ds => decide (ds.length ≤ 1000) && ds.all (okS n)
  | n + 1, .tuple ds => decide (ds.length ≤ 1000) && ds.all (okS n)
  | _, _ => false
def spSame (K : PySem.W.Frag) (n : Nat) : Sp := fun vs H Q _ => ∃ (x y : V) (d : PyData), vs = [x, y] ∧ Dp K H x d ∧ Dp K H y d ∧ okS n d = true ∧ ∀ H', Same H H' → Q (.bl true) H'
theorem eqv_int (i : Int) : PyData.eqv (.int i) (.int i) = true := by simp [PyData.eqv]
theorem eqv_str (i : Str) : PyData.eqv (.str i) (.str i) = true := by simp [PyData.eqv]
theorem eqv_bool (i : Bool) : PyData.eqv (.bool i) (.bool i) = true := by simp [PyData.eqv]
theorem shaped_int (i : Int) : SeqAt.shaped (.int i) = true := by simp [SeqAt.shaped, PyData.canLay0, PyData.depth]
theorem shaped_bool (i : Bool) : SeqAt.shaped (.bool i) = true := by simp [SeqAt.shaped, PyData.canLay0, PyData.depth]
theorem fn_false {P : Program} {w : World} {K : PySem.W.Frag} {mg : Str → Option Value} {base : Heap} {k : Nat} {f : Addr} {fd : FuncData} {ps : List Str} {sp : Sp} (h : ∀ vs H Q E, ¬ sp vs H Q E) : FnOk P w K mg base CX0 k f fd ps sp :=
  ⟨fun _ _ _ _ z => (h _ _ _ _ z).elim, fun _ _ _ _ _ _ _ _ _ _ _ _ _ z => (h _ _ _ _ z).elim⟩
section
variable {P : Program} {w : World} {K : PySem.W.Frag} {mg : Str → Option Value} {base : Heap}
theorem ok_same (T : Tx K mg) : ∀ n : Nat, FnOk P w K mg base CX0 (n + 1) T.same.a T.same.fd ["actual", "expected"] (spSame K n) := by
  intro n
  induction n with
  | zero => exact fn_false fun vs H Q E ⟨_, _, d, _, _, _, hd, _⟩ => by simp [okS] at hd
  | succ n ih =>
    have G_same := ih
    refine T.same.F.ok sc_same (fun vs H Q E h => by obtain ⟨x, y, d, rfl, _⟩ := h; rfl) (fun cdv A outer s H vs Q E hr h => ?_)
    obtain ⟨x, y, d, rfl, hx, hy, hd, q⟩ := h
    refine ⟨_, (pss_cons (ps_if (pt_val (pe_callB (call_isTDK K) (by rfl) T.b_isinstance (by decide +kernel) (pa_cons (pv 1) (pa_cons (pe_tup (pa_cons (pe_bltn (v := .ty "list") (by rfl) T.b_list (by decide +kernel) rfl) (pa_cons (pe_bltn (v := .ty "tuple") (by rfl) T.b_tuple (by decide +kernel) rfl) pa_nil))) pa_nil))))
  (pss_cons (ps_if (pt_cmpR op_ne (pe_callB (call_isDK K) (by rfl) T.b_isinstance (by decide +kernel) (pa_cons (pv 0) (pa_cons (pe_bltn (v := .ty "list") (by rfl) T.b_list (by decide +kernel) rfl) pa_nil))) (pe_callB (call_isDK K) (by rfl) T.b_isinstance (by decide +kernel) (pa_cons (pv 1) (pa_cons (pe_bltn (v := .ty "list") (by rfl) T.b_list (by decide +kernel) rfl) pa_nil))) (nomark _))
  (pss_one (ps_ret pe_bl))
  pss_nil)
  (pss_cons (ps_if (PW.pt (pw_or (pt_cmpR op_ne (pe_callB (call_isDK K) (by rfl) T.b_isinstance (by decide +kernel) (pa_cons (pv 0) (pa_cons (pe_bltn (v := .ty "tuple") (by rfl) T.b_tuple (by decide +kernel) rfl) pa_nil))) (pe_callB (call_isDK K) (by rfl) T.b_isinstance (by decide +kernel) (pa_cons (pv 1) (pa_cons (pe_bltn (v := .ty "tuple") (by rfl) T.b_tuple (by decide +kernel) rfl) pa_nil))) (nomark _)) (pw_or1 (pt_cmpR op_ne (pe_callB (call_lenK K) (by rfl) T.b_len (by decide +kernel) (pa_cons (pv 0) pa_nil)) (pe_callB (call_lenK K) (by rfl) T.b_len (by decide +kernel) (pa_cons (pv 1) pa_nil)) (nomark _)))))
  (pss_one (ps_ret pe_bl))
  pss_nil)
  (pss_cons (ps_for PassesOwn.never rfl (pi_range1 (by rfl) T.b_range (pa_cons (pe_callB (call_lenK K) (by rfl) T.b_len (by decide +kernel) (pa_cons (pv 1) pa_nil)) pa_nil)) (pg_name (i := 2) sc_same.nd rfl (Or.inl rfl))
  (pss_one (ps_if (pt_not (pt_val (pe_call G_same (hr.mono (by first | decide | omega)) rfl T.same.g T.same.F.kp T.same.b .nil pass0 (pa_cons (pe_ix (ix_seqK K) (pv 0) (pv 2) (fun _ _ => rfl)) (pa_cons (pe_ix (ix_seqK K) (pv 1) (pv 2) (fun _ _ => rfl)) pa_nil)))))
  (pss_one (ps_ret pe_bl))
  pss_nil)))
  (pss_one (ps_ret pe_bl)))))
  pss_nil)
  (pss_cons (ps_if (pt_val (pe_callB (call_isDK K) (by rfl) T.b_isinstance (by decide +kernel) (pa_cons (pv 1) (pa_cons (pe_bltn (v := .ty "str") (by rfl) T.b_str (by decide +kernel) rfl) pa_nil))))
  (pss_one (ps_ret (pe_and (pe_callB (call_isDK K) (by rfl) T.b_isinstance (by decide +kernel) (pa_cons (pv 0) (pa_cons (pe_bltn (v := .ty "str") (by rfl) T.b_str (by decide +kernel) rfl) pa_nil))) (pe_one (pe_cmpR (op_eqAK K (hu65 hr)) (pv 0) (pv 1) (nomark _))))))
  pss_nil)
  (pss_cons (ps_if (pt_val (pe_callB (call_isDK K) (by rfl) T.b_isinstance (by decide +kernel) (pa_cons (pv 1) (pa_cons (pe_bltn (v := .ty "bool") (by rfl) T.b_bool (by decide +kernel) rfl) pa_nil))))
  (pss_one (ps_ret (pe_and (pe_callB (call_isDK K) (by rfl) T.b_isinstance (by decide +kernel) (pa_cons (pv 0) (pa_cons (pe_bltn (v := .ty "bool") (by rfl) T.b_bool (by decide +kernel) rfl) pa_nil))) (pe_one (pe_cmpR (op_eqAK K (hu65 hr)) (pv 0) (pv 1) (nomark _))))))
  pss_nil)
  (pss_one (ps_ret (pe_and (pe_callB (call_isDK K) (by rfl) T.b_isinstance (by decide +kernel) (pa_cons (pv 0) (pa_cons (pe_bltn (v := .ty "int") (by rfl) T.b_int (by decide +kernel) rfl) pa_nil))) (pe_and (pe_not (pe_callB (call_isDK K) (by rfl) T.b_isinstance (by decide +kernel) (pa_cons (pv 0) (pa_cons (pe_bltn (v := .ty "bool") (by rfl) T.b_bool (by decide +kernel) rfl) pa_nil)))) (pe_one (pe_cmpR (op_eqAK K (hu65 hr)) (pv 0) (pv 1) (nomark _)))))))))), ?_⟩
    refine ⟨_, rfl, by show 2 ≤ sizeLine; decide, fun tp np => ⟨y, tp, ["list", "tuple"], tyD d, rfl, upd_same, ((Same.new np).dp hy).ty, tyD_mem d, by decide, _, rfl, ?_⟩⟩
    have s1 : Same H (upd H tp (.tup [.ty "list", .ty "tuple"])) := Same.new np
    generalize hH : upd H tp (.tup [.ty "list", .ty "tuple"]) = H1 at s1
    have e1 : upd H tp (HO.tup (List.map V.ty ["list", "tuple"])) = H1 := hH
    clear hH e1
    replace hx := s1.dp hx
    replace hy := s1.dp hy
    replace q : ∀ H', Same H1 H' → Q (.bl true) H' := fun H' s2 => q H' (s1.trans s2)
    have scalar : ∀ c : String, c ∈ ["bool", "int", "str", "list", "tuple", "dict"] → True := fun _ _ => trivial
    -- a list or a tuple
    by_cases hseq : ∃ ds, d = .list ds ∨ d = .tuple ds
    · obtain ⟨ds, hds⟩ := hseq
      have hok : ds.length ≤ 1000 ∧ ∀ e ∈ ds, okS n e = true := by
        rcases hds with rfl | rfl <;> (simp only [okS, Bool.and_eq_true, decide_eq_true_eq, List.all_eq_true] at hd; exact hd)
      have c : ["list", "tuple"].any (isTy (tyD d)) = true := by rcases hds with rfl | rfl <;> rfl
      refine iteT' c ?_
      refine ⟨_, rfl, x, tyD d, "list", rfl, hx.ty, tyD_mem d, by decide, _, rfl, y, tyD d, "list", rfl, hy.ty, tyD_mem d, by decide, rfl, _, rfl, iteF' (by simp) ?_⟩
      refine ⟨_, rfl, x, tyD d, "tuple", rfl, hx.ty, tyD_mem d, by decide, _, rfl, y, tyD d, "tuple", rfl, hy.ty, tyD_mem d, by decide, rfl, _, rfl, iteF' (by simp) ?_⟩
      refine ⟨_, rfl, x, ds.length, rfl, hx.len hds, _, rfl, y, ds.length, rfl, hy.len hds, rfl, _, rfl, iteF' (by simp) ?_⟩
      refine ⟨_, rfl, y, ds.length, rfl, hy.len hds, _, rfl, by omega, by omega, for_range (n := ((ds.length : Nat) : Int).toNat) (fun i σ H' => ∃ v, σ = [some x, some y, v] ∧ Same H1 H') ⟨none, rfl, Same.refl _⟩ ?_ ?_⟩
      · rintro i σ H' hi ⟨v, rfl, s2⟩
        have hi : i < ds.length := by omega
        have e0 : (0 : Int) + (i : Int) = (i : Int) := by omega
        refine ⟨_, rfl, _, rfl, ?_⟩
        show rIx K x (.int (0 + (i : Int))) H' _
        rw [e0]
        refine Dp.ix (s2.dp hx) hds (List.getElem?_eq_getElem hi) fun u hu => ⟨_, rfl, _, rfl, ?_⟩
        refine Dp.ix (s2.dp hy) hds (List.getElem?_eq_getElem hi) fun u2 hu2 => ?_
        exact ⟨u, u2, ds[i], rfl, hu, hu2, hok.2 _ (List.getElem_mem hi), fun H2 s3 => ⟨_, rfl, iteF' rfl ⟨_, rfl, s2.trans s3⟩⟩⟩
      · rintro σ H' ⟨v, rfl, s2⟩
        exact q H' s2
    · have c : ["list", "tuple"].any (isTy (tyD d)) = false := by
        cases d <;> first | rfl | exact absurd ⟨_, .inl rfl⟩ hseq | exact absurd ⟨_, .inr rfl⟩ hseq
      refine iteF' c ?_
      refine ⟨_, rfl, y, tyD d, "str", rfl, hy.ty, tyD_mem d, by decide, _, rfl, ?_⟩
      cases d with
      | str z =>
        refine iteT' rfl ⟨_, rfl, x, "str", "str", rfl, hx.ty, by decide, by decide, _, rfl, iteT' rfl ⟨_, rfl, _, rfl, ?_⟩⟩
        cases hx.str_inv; cases hy.str_inv
        exact .inl ⟨rfl, by rw [decide_eq_true rfl]; exact q H1 (Same.refl _)⟩
      | bool z =>
        refine iteF' rfl ⟨_, rfl, y, "bool", "bool", rfl, hy.ty, by decide, by decide, _, rfl, iteT' rfl ⟨_, rfl, x, "bool", "bool", rfl, hx.ty, by decide, by decide, _, rfl, iteT' rfl ⟨_, rfl, _, rfl, ?_⟩⟩⟩
        cases hx.bl_inv; cases hy.bl_inv
        exact .inl ⟨rfl, by rw [decide_eq_true rfl]; exact q H1 (Same.refl _)⟩
      | int z =>
        refine iteF' rfl ⟨_, rfl, y, "int", "bool", rfl, hy.ty, by decide, by decide, _, rfl, iteF' rfl ⟨_, rfl, x, "int", "int", rfl, hx.ty, by decide, by decide, _, rfl, iteT' (by decide)
          ⟨_, rfl, x, "int", "bool", rfl, hx.ty, by decide, by decide, _, rfl, _, rfl, iteT' rfl ⟨_, rfl, _, rfl, ?_⟩⟩⟩⟩
        cases hx.int_inv; cases hy.int_inv
        exact .inl ⟨rfl, by rw [decide_eq_true rfl]; exact q H1 (Same.refl _)⟩
      | list ds => exact absurd ⟨_, .inl rfl⟩ hseq
      | tuple ds => exact absurd ⟨_, .inr rfl⟩ hseq
      | none => simp [okS] at hd
      | dict _ => simp [okS] at hd
def spTold (K : PySem.W.Frag) (C : Addr) : Sp := fun vs H Q _ => ∃ (a : Addr) (v : V) (ds : List PyData), vs = [.ref a, v] ∧ ScrAt K C H a ds ∧ Dp K H v (.tuple ds) ∧ (∀ d ∈ ds, d ∈ STEPSD) ∧ ds.length ≤ 1000 ∧ ∀ H', Same H H' → Q (.bl true) H'
theorem okS_step {n : Nat} : ∀ d ∈ STEPSD, okS (n + 2) d = true := by
  intro d hd
  simp only [STEPSD, List.mem_cons, List.not_mem_nil, or_false] at hd
  rcases hd with rfl | rfl | rfl | rfl | rfl | rfl | rfl | rfl | rfl | rfl | rfl | rfl <;> simp [okS]
theorem okS_row {n : Nat} {ds : List PyData} (h : ∀ d ∈ ds, d ∈ STEPSD) (hl : ds.length ≤ 1000) : okS (n + 3) (.tuple ds) = true := by
  simp only [okS, Bool.and_eq_true, decide_eq_true_eq, List.all_eq_true]
  exact ⟨hl, fun d hd => okS_step d (h d hd)⟩
end
end Y

namespace Y
open PySem L2
def spLText (K : PySem.W.Frag) : Sp := fun vs H Q _ => ∃ (v : V) (ds : List PyData), vs = [v] ∧ Dp K H v (.tuple ds) ∧ (∀ d ∈ ds, d ∈ STEPSD) ∧ ds.length ≤ 1000 ∧ ∀ H', Same H H' → Q (.str (rowText ds)) H'
def spTexted (K : PySem.W.Frag) (C : Addr) : Sp := fun vs H Q _ => ∃ (a : Addr) (v : V) (ds : List PyData), vs = [.ref a, v] ∧ ScrAt K C H a ds ∧ Dp K H v (.tuple ds) ∧ (∀ d ∈ ds, d ∈ STEPSD) ∧ ds.length ≤ 1000 ∧ ∀ H', Same H H' → Q (.bl true) H'
/-- what is held: pairs of a script and its row -/
structure Held1 (K : PySem.W.Frag) (C : Addr) (H : Hp) (x : V) : Prop where
  ex : ∃ t wk v ds, x = .ref t ∧ H t = some (.tup [.ref wk, v]) ∧ ScrAt K C H wk ds ∧ Dp K H v (.tuple ds) ∧ Row ds
theorem Held1.same {K : PySem.W.Frag} {C : Addr} {H H' : Hp} {x : V} (h : Held1 K C H x) (s : Same H H') : Held1 K C H' x := by
  obtain ⟨t, wk, v, ds, h1, h2, h3, h4, h5⟩ := h
  exact ⟨t, wk, v, ds, h1, s _ _ h2, h3.same s, s.dp h4, h5⟩
theorem Held1.but {K : PySem.W.Frag} {C p : Addr} {xs : List V} {H H' : Hp} {x : V} (h : Held1 K C H x) (s : But p H H') (hp : H p = some (.lst xs)) : Held1 K C H' x := by
  obtain ⟨t, wk, v, ds, h1, h2, h3, h4, h5⟩ := h
  obtain ⟨dx, u, e1, e2⟩ := id h3
  exact ⟨t, wk, v, ds, h1, s.tups.1 _ _ h2, h3.but s (ne_of e1 hp (by intro z; cases z)) h5, s.dp h5.imm h4, h5⟩
def spLaw (K : PySem.W.Frag) : Sp := fun vs H Q _ => ∃ (a : Addr) (ns : List Int), vs = [.ref a] ∧ SqL K H a (ns.map V.int) ∧ ns.length ≤ 63 ∧ ∀ H', Q (.bl true) H'
section
variable {P : Program} {w : World} {K : PySem.W.Frag} {mg : Str → Option Value} {base : Heap}
theorem ok_l_script_text (T : Tx K mg) : FnOk P w K mg base CX0 1 T.l_script_text.a T.l_script_text.fd ["row"] (spLText K) := by
  refine T.l_script_text.F.ok sc_l_script_text (fun vs H Q E h => by obtain ⟨v, ds, rfl, _⟩ := h; rfl) (fun cdv A outer s H vs Q E hr h => ?_)
  obtain ⟨v, ds, rfl, hv, hst, hl, q⟩ := h
  refine ⟨_, (pss_one (ps_ret (pe_ifExp (pt_cmpR (op_neDK K (hu65 hr)) (pv 0) (pe_tup pa_nil) (nomark _)) (pe_joinK K pe_str (pe_lc (own := [("step", 1)]) (g := (gName 1)) (tt := tYes) rfl sc_l_script_text.nd (pi_tupK K (pv 0)) (blkOk_by (N := ["row", "step"]) (sc := defScope s_l_script_text) (by decide +kernel)) (fun _ _ _ _ _ => pg_name (i := 1) sc_l_script_text.nd rfl (Or.inl rfl)) (fun _ _ _ _ _ => pts_nil) (fun _ _ _ _ _ => (pe_joinK K pe_str (pe_callTy (call_lstK K) (by rfl) T.b_list (by decide +kernel) (pa_cons (pv 1) pa_nil)))))) pe_str))), ?_⟩
  refine ⟨_, rfl, by show 0 ≤ sizeLine; decide, fun p hp => ?_⟩
  have s1 : Same H (upd H p (.tup [])) := Same.new hp
  refine ⟨.tuple ds, .tuple [], s1.dp hv, .tupOf upd_same .nil, row_shaped hst, by decide +kernel, _, rfl, ?_⟩
  by_cases hne : ds = []
  · subst hne
    have := q _ s1
    rw [rowText, if_pos rfl] at this
    exact iteF' (by decide +kernel) this
  · refine iteT' (by cases ds with | nil => exact absurd rfl hne | cons d ds => simp [PyData.eqv, PyData.eqvAll]) ?_
    obtain ⟨b, xs, rfl, hb, hxs⟩ := (s1.dp hv).tup_inv
    have hlen := hxs.length
    refine ⟨⟨_, rfl⟩, _, rfl, b, rfl, ⟨_, hb⟩, fun D nD => ?_⟩
    generalize upd H p (.tup []) = H1 at s1 hb hxs nD ⊢
    refine lc_tup (K := K) (a := b) (xs := xs) (fun i H' => Same H1 H' ∧ H' D = some (.lst ((ds.take i).map fun d => .str (stepText d)))) ⟨Same.new nD, by simp [upd_same]⟩ (fun i H' _ ⟨s, _⟩ => s.sqT hb) ?_ ?_
    · rintro i y H' hi ⟨s, hD⟩
      obtain ⟨d, h1, h2⟩ := hxs.get' hi
      have hm := hst d (List.mem_of_getElem? h1)
      obtain ⟨e, hle, _⟩ := step_words d hm
      have h3 := s.dp h2
      rw [e] at h3
      obtain ⟨c, ys, rfl, hc, hys⟩ := h3.tup_inv
      rw [dp_strs hys] at hc
      refine ⟨rfl, ⟨_, rfl⟩, _, rfl, c, _, rfl, .inr hc, fun l nl => ?_⟩
      have s2 : Same H' (upd H' l (.lst ((wordsD d).map V.str))) := Same.new nl
      refine ⟨_, l, wordsD d, rfl, rfl, .inl (SqL.of upd_same), Nat.le_trans hle (by decide), _, s2 _ _ hD, ?_, ?_⟩
      · refine line_lt ?_
        rw [List.length_map, List.length_take]; omega
      · refine ⟨(s.trans s2).mut nD, ?_⟩
        rw [upd_same, List.take_add_one, h1]
        simp [stepText]
    · rintro H' ⟨s, hD⟩
      rw [hlen, List.take_length] at hD
      refine ⟨_, D, ds.map stepText, rfl, rfl, .inl (SqL.of (by rw [hD, List.map_map]; rfl)), row_sum hst hl, ?_⟩
      have := q H' (s1.trans s)
      rw [rowText, if_neg hne] at this
      exact this
theorem ok_texted (T : Tx K mg) : FnOk P w K mg base CX0 6 T.texted.a T.texted.fd ["work", "row"] (spTexted K T.c_Script) := by
  have G_same := ok_same (P := P) (w := w) (base := base) T 3
  have G_script_text := ok_script_text (P := P) (w := w) (base := base) T
  have G_l_script_text := ok_l_script_text (P := P) (w := w) (base := base) T
  have G_Script_steps := ok_Script_steps (P := P) (w := w) (base := base) T
  refine T.texted.F.ok sc_texted (fun vs H Q E h => by obtain ⟨a, v, ds, rfl, _⟩ := h; rfl) (fun cdv A outer s H vs Q E hr h => ?_)
  obtain ⟨a, v, ds, rfl, hs, hv, hst, hl, q⟩ := h
  refine ⟨_, (pss_one (ps_ret (pe_and (pe_call G_same (hr.mono (by first | decide | omega)) rfl T.same.g T.same.F.kp T.same.b .nil pass0 (pa_cons (pe_call G_script_text (hr.mono (by first | decide | omega)) rfl T.script_text.g T.script_text.F.kp T.script_text.b .nil pass0 (pa_cons (pv 0) pa_nil)) (pa_cons (pe_call G_l_script_text (hr.mono (by first | decide | omega)) rfl T.l_script_text.g T.l_script_text.F.kp T.l_script_text.b .nil pass0 (pa_cons (pv 1) pa_nil)) pa_nil))) (pe_one (pe_call G_same (hr.mono (by first | decide | omega)) rfl T.same.g T.same.F.kp T.same.b .nil pass0 (pa_cons (pe_meth0 (pv 0) T.cl_Script T.Script_steps.m G_Script_steps (hr.mono (by first | decide | omega)) T.Script_steps.b .nil pass0) (pa_cons (pv 1) pa_nil))))))), ?_⟩
  refine ⟨_, rfl, a, ds, rfl, hs, hst, hl, fun H1 s1 => ⟨_, rfl, v, ds, rfl, s1.dp hv, hst, hl, fun H2 s2 => ?_⟩⟩
  refine ⟨_, _, .str (rowText ds), rfl, .str _, .str _, rfl, fun H3 s3 => ⟨_, rfl, iteT' rfl ?_⟩⟩
  have s13 := (s1.trans s2).trans s3
  obtain ⟨dx, u, hx, hu⟩ := hs.same s13
  exact ⟨_, rfl, a, dx, _, rfl, hx, kf_no _ (by decide +kernel), a, dx, u, rfl, hx, _, rfl, u, v, .tuple ds, rfl, hu, s13.dp hv, okS_row hst hl, fun H4 s4 => q H4 (s13.trans s4)⟩
theorem ok_law (T : Tx K mg) : FnOk P w K mg base CX0 12 T.law.a T.law.fd ["script"] (spLaw K) := by
  have G_well := ok_well (P := P) (w := w) (base := base) T
  have G_row := ok_row (P := P) (w := w) (base := base) T
  have G_texted := ok_texted (P := P) (w := w) (base := base) T
  have G_Script_init := ok_Script_init (P := P) (w := w) (base := base) T
  have G_Script_add := ok_Script_add (P := P) (w := w) (base := base) T
  have G_Script_without := ok_Script_without (P := P) (w := w) (base := base) T
  refine T.law.F.ok sc_law (fun vs H Q E h => by obtain ⟨a, ns, rfl, _⟩ := h; rfl) (fun cdv A outer s H vs Q E hr h => ?_)
  obtain ⟨a, ns, rfl, hS, hlen, q⟩ := h
  refine ⟨_, (pss_cons (ps_set (i := 1) sc_law.nd rfl (Or.inl rfl) (pe_lst pa_nil))
  (pss_cons (ps_for PassesOwn.never rfl (pi_range1 (by rfl) T.b_range (pa_cons (pe_callB (call_max2 rfl) (by rfl) T.b_max (by decide +kernel) (pa_cons pe_int (pa_cons (pe_callB (call_lenK K) (by rfl) T.b_len (by decide +kernel) (pa_cons (pv 0) pa_nil)) pa_nil))) pa_nil)) (pg_name (i := 2) sc_law.nd rfl (Or.inl rfl))
  (pss_cons (ps_set (i := 3) sc_law.nd rfl (Or.inl rfl) (pe_call G_well (hr.mono (by first | decide | omega)) rfl T.well.g T.well.F.kp T.well.b .nil pass0 (pa_cons (pv 0) (pa_cons (pv 2) pa_nil))))
  (pss_cons (ps_par (i := 4) (j := 5) rfl sc_law.nd rfl rfl (by decide) rfl rfl (pa_cons (pe_call G_row (hr.mono (by first | decide | omega)) rfl T.row.g T.row.F.kp T.row.b .nil pass0 (pa_cons (pv 3) (pa_cons pe_int pa_nil))) (pa_cons (pe_call G_row (hr.mono (by first | decide | omega)) rfl T.row.g T.row.F.kp T.row.b .nil pass0 (pa_cons (pv 3) (pa_cons pe_int pa_nil))) pa_nil)) rfl)
  (pss_cons (ps_set (i := 6) sc_law.nd rfl (Or.inl rfl) (pe_make T.mk_Script G_Script_init (hr.mono (by first | decide | omega)) rfl T.g_Script T.Script_init.b .nil pass0 (pa_cons (pv 4) pa_nil)))
  (pss_cons (ps_expr (pe_bm PySem.F.plainAttrs_list PySem.F.slot_list_append PySem.F.type_list_append mt_append (pv 1) (pa_cons (pe_tup (pa_cons (pv 6) (pa_cons (pv 4) pa_nil))) pa_nil)))
  (pss_cons (ps_if (PW.pt (pw_or (pt_not (pt_val (pe_call G_texted (hr.mono (by first | decide | omega)) rfl T.texted.g T.texted.F.kp T.texted.b .nil pass0 (pa_cons (pv 6) (pa_cons (pv 4) pa_nil))))) (pw_or1 (pt_not (pt_val (pe_call G_texted (hr.mono (by first | decide | omega)) rfl T.texted.g T.texted.F.kp T.texted.b .nil pass0 (pa_cons (pv 6) (pa_cons (pv 4) pa_nil))))))))
  (pss_one (ps_ret pe_bl))
  pss_nil)
  (C8.pss_cut (ps_if (PW.pt (pw_and (pt_cmpR op_lt (pe_op op_add (pe_callB (call_lenK K) (by rfl) T.b_len (by decide +kernel) (pa_cons (pv 4) pa_nil)) (pe_callB (call_lenK K) (by rfl) T.b_len (by decide +kernel) (pa_cons (pv 5) pa_nil))) pe_int (nomark _)) (pw_and1 (pt_not (pt_val (pe_call G_texted (hr.mono (by first | decide | omega)) rfl T.texted.g T.texted.F.kp T.texted.b .nil pass0 (pa_cons (pe_op (op_addO T.Script_add.spc T.sf_Script G_Script_add (hr.mono (by first | decide | omega)) T.Script_add.b pass0) (pv 6) (pe_make T.mk_Script G_Script_init (hr.mono (by first | decide | omega)) rfl T.g_Script T.Script_init.b .nil pass0 (pa_cons (pv 5) pa_nil))) (pa_cons (pe_op (op_catK K) (pv 4) (pv 5)) pa_nil))))))))
  (pss_one (ps_ret pe_bl))
  pss_nil)
  (pss_one (ps_for PassesOwn.never rfl (pi_range1 (by rfl) T.b_range (pa_cons (pe_callB (call_lenK K) (by rfl) T.b_len (by decide +kernel) (pa_cons (pv 4) pa_nil)) pa_nil)) (pg_name (i := 7) sc_law.nd rfl (Or.inl rfl))
  (pss_one (ps_if (pt_not (pt_val (pe_call G_texted (hr.mono (by first | decide | omega)) rfl T.texted.g T.texted.F.kp T.texted.b .nil pass0 (pa_cons (pe_meth (pv 6) T.cl_Script T.Script_without.m G_Script_without (hr.mono (by first | decide | omega)) T.Script_without.b .nil pass0 (pa_cons (pv 7) pa_nil)) (pa_cons (pe_op (op_catK K) (pe_slice (sl_tupK K) (pv 4) po_no (po_some (pv 7))) (pe_slice (sl_tupK K) (pv 4) (po_some (pe_op op_add (pv 7) pe_int)) po_no)) pa_nil)))))
  (pss_one (ps_ret pe_bl))
  pss_nil)))))))))))
  (pss_cons (ps_for PassesOwn.never rfl (pi_range1 (by rfl) T.b_range (pa_cons (pe_callB (call_lenK K) (by rfl) T.b_len (by decide +kernel) (pa_cons (pv 1) pa_nil)) pa_nil)) (pg_name (i := 2) sc_law.nd rfl (Or.inl rfl))
  (pss_cons (ps_asg (pe_ix (ix_listK K) (pv 1) (pe_op op_sub (pe_op op_sub (pe_callB (call_lenK K) (by rfl) T.b_len (by decide +kernel) (pa_cons (pv 1) pa_nil)) pe_int) (pv 2)) (fun _ _ => rfl)) (pg_tupK K rfl (pgs_cons (pg_name (i := 6) sc_law.nd rfl (Or.inl rfl)) (pgs_cons (pg_name (i := 4) sc_law.nd rfl (Or.inl rfl)) pgs_nil))))
  (pss_one (ps_if (pt_not (pt_val (pe_call G_texted (hr.mono (by first | decide | omega)) rfl T.texted.g T.texted.F.kp T.texted.b .nil pass0 (pa_cons (pv 6) (pa_cons (pv 4) pa_nil)))))
  (pss_one (ps_ret pe_bl))
  pss_nil))))
  (pss_one (ps_ret pe_bl))))), ?_⟩
  refine ⟨by show 0 ≤ sizeLine; decide, fun hl nl => ?_⟩
  refine ⟨_, rfl, .ref a, ns.length, rfl, .inl ⟨_, hS.imp (fun h => (Same.new nl).rd h) id, by simp⟩, _, _, rfl, _, rfl, by split <;> omega, by split <;> omega, ?_⟩
  generalize hn : (if ((ns.length : Nat) : Int) > 1 then ((ns.length : Nat) : Int) else 1) = n
  have hn1 : n ≤ 63 := by rw [← hn]; split <;> omega
  refine for_range (n := n.toNat) (fun i σ H' => ∃ v2 v3 v4 v5 v6 v7 hs, σ = [some (.ref a), some (.ref hl), v2, v3, v4, v5, v6, v7] ∧ Same H H' ∧ H' hl = some (.lst hs) ∧ (∀ x ∈ hs, Held1 K T.c_Script H' x) ∧ hs.length = i)
    ⟨none, none, none, none, none, none, [], rfl, Same.new nl, upd_same, by simp, rfl⟩ ?_ ?_
  · rintro i σ H1 hi ⟨v2, v3, v4, v5, v6, v7, hs, rfl, s1, h1, h2, h3⟩
    -- well = _law_well(script, k); row, more = ..
    refine ⟨_, rfl, _, rfl, a, ns, 0 + (i : Int), rfl, s1.seq hS, hlen, by omega, by omega, fun p H2 np s2 wl => ?_⟩
    refine ⟨_, rfl, p, 12, 0, rfl, wl, by decide, by decide, by decide, fun v ds H3 b3 wl3 hv hst hl3 => ?_⟩
    obtain ⟨w0, w1, w2, hp2, _⟩ := id wl
    refine ⟨_, rfl, p, 3, 200, rfl, wl3.mono (by decide), by decide, by decide, by decide, fun u es H4 b4 wl4 hu4 hst4 hl4 => ⟨_, _, rfl, ?_⟩⟩
    have r : Row ds := ⟨hst, by omega⟩
    have re : Row es := ⟨hst4, by omega⟩
    have s14' : Same H1 H4 := But.same s2 (b3.trans b4) np
    replace hv := b4.dp r.imm hv
    clear b3 wl3 b4 wl4
    generalize H4 = H3 at s14' hv hu4
    have s13 := s14'
    -- work = Script(row)
    refine ⟨_, rfl, fun x dx nx ndx nex => ?_⟩
    refine ⟨x, dx, v, ds, rfl, upd_same, (same_ins nx ndx).dp hv, r, fun H4 hx4 k4 => ⟨rfl, ?_⟩⟩
    obtain ⟨s34, sc4⟩ := scr_made nx ndx hv hx4 k4
    have s14 := s13.trans s34
    have hv4 := s34.dp hv
    -- held.append((work, row))
    refine ⟨_, rfl, .inl ⟨rfl, _, SqL.of (s14 _ _ h1)⟩, _, rfl, _, rfl, by show 2 ≤ sizeLine; decide, fun t nt => ?_⟩
    have st : Same H4 (upd H4 t (.tup [.ref x, v])) := Same.new nt
    have h15 : upd H4 t (.tup [.ref x, v]) hl = some (.lst hs) := st _ _ (s14 _ _ h1)
    refine ⟨hl, hs, _, rfl, rfl, h15, line_lt (by omega), ?_⟩
    have bl : But hl (upd H4 t (.tup [.ref x, v])) (upd (upd H4 t (.tup [.ref x, v])) hl (.lst (hs ++ [.ref t]))) := But.mut (by rw [h15]; trivial)
    have hld : ∀ y ∈ hs ++ [.ref t], Held1 K T.c_Script (upd (upd H4 t (.tup [.ref x, v])) hl (.lst (hs ++ [.ref t]))) y := by
      intro y hy
      rcases List.mem_append.mp hy with hy | hy
      · exact ((h2 y hy).same (s14.trans st)).but bl h15
      · rw [List.mem_singleton.mp hy]
        exact Held1.but ⟨t, x, v, ds, rfl, upd_same, sc4.same st, st.dp hv4, r⟩ bl h15
    have s16 : Same H (upd (upd H4 t (.tup [.ref x, v])) hl (.lst (hs ++ [.ref t]))) := Same.mut ((s1.trans s14).trans st) nl
    have sc6 : ScrAt K T.c_Script (upd (upd H4 t (.tup [.ref x, v])) hl (.lst (hs ++ [.ref t]))) x ds := (sc4.same st).but bl (ne_of (st _ _ hx4) h15 (by intro z; cases z)) r
    have hv6 : Dp K (upd (upd H4 t (.tup [.ref x, v])) hl (.lst (hs ++ [.ref t]))) v (.tuple ds) := bl.dp r.imm (st.dp hv4)
    have hu6 : Dp K (upd (upd H4 t (.tup [.ref x, v])) hl (.lst (hs ++ [.ref t]))) u (.tuple es) := bl.dp re.imm (st.dp (s34.dp hu4))
    have h16 : (upd (upd H4 t (.tup [.ref x, v])) hl (.lst (hs ++ [.ref t]))) hl = some (.lst (hs ++ [.ref t])) := upd_same
    generalize upd (upd H4 t (.tup [.ref x, v])) hl (.lst (hs ++ [.ref t])) = H6 at hld s16 sc6 hv6 hu6 h16 ⊢
    have rl : ds.length ≤ 1000 := Nat.le_trans r.len (by decide)
    refine ⟨_, rfl, _, rfl, x, v, ds, rfl, sc6, hv6, hst, rl, fun H7 s7 => ⟨_, rfl, iteF' rfl ?_⟩⟩
    refine ⟨_, rfl, _, rfl, x, v, ds, rfl, sc6.same s7, s7.dp hv6, hst, rl, fun H8 s8 => ⟨_, rfl, iteF' rfl ?_⟩⟩
    have s68 := s7.trans s8
    -- the sum
    have sums : ∀ {A B : Prop}, (∀ H9, Same H6 H9 → A) → True := fun _ => trivial
    refine ⟨fun σ' H' => σ' = [some (.ref a), some (.ref hl), some (.int (0 + (i : Int))), some (.ref p), some v, some u, some (.ref x), v7] ∧ Same H6 H', ?_, ?_⟩
    · refine ⟨_, rfl, v, ds.length, rfl, (s68.dp hv6).len (.inr rfl), _, rfl, u, es.length, rfl, (s68.dp hu6).len (.inr rfl), _, _, rfl, rfl, _, _, rfl, rfl, _, rfl, ite2 (fun c => ?_) (fun c => ?_)⟩
      · have c := of_decide_eq_true c
        refine ⟨_, rfl, _, rfl, fun y dy ny ndy ney => ?_⟩
        refine ⟨y, dy, u, es, rfl, upd_same, (same_ins ny ndy).dp (s68.dp hu6), re, fun H9 hy9 k9 => ⟨rfl, ?_⟩⟩
        obtain ⟨s89, sc9⟩ := scr_made ny ndy (s68.dp hu6) hy9 k9
        have s69 := s68.trans s89
        have rr : Row (ds ++ es) := ⟨fun d hd => (List.mem_append.mp hd).elim (hst d) (hst4 d), by rw [List.length_append]; omega⟩
        obtain ⟨dx1, w1, hx1, hw1⟩ := sc6.same s69
        obtain ⟨dy1, w2, hy1, hw2⟩ := id sc9
        refine ⟨x, dx1, _, y, dy1, _, rfl, rfl, hx1, hy1, x, y, ds, es, rfl, sc6.same s69, sc9, rr, fun c1 H10 s10 sc10 => ⟨⟨_, rfl⟩, ?_⟩⟩
        refine ⟨_, rfl, _, rfl, ?_⟩
        have s610 := s69.trans s10
        refine catT_go (s610.dp hv6) (s610.dp hu6) (by omega) fun w3 H11 s11 hw3 => ?_
        refine ⟨c1, w3, ds ++ es, rfl, sc10.same s11, hw3, rr.st, Nat.le_trans rr.len (by decide), fun H12 s12 => ⟨_, rfl, ?_⟩⟩
        exact iteF' rfl ⟨rfl, (s610.trans s11).trans s12⟩
      · exact ⟨rfl, s68⟩
    rintro σ' H9 ⟨rfl, s69⟩
    -- each step left out
    refine ⟨_, rfl, v, ds.length, rfl, (s69.dp hv6).len (.inr rfl), _, rfl, by omega, by omega, for_range (n := ((ds.length : Nat) : Int).toNat) (fun j σ' H' => ∃ v7, σ' = [some (.ref a), some (.ref hl), some (.int (0 + (i : Int))), some (.ref p), some v, some u, some (.ref x), v7] ∧ Same H6 H') ⟨_, rfl, s69⟩ ?_ ?_⟩
    · rintro j σ' H10 hj ⟨v7, rfl, s10⟩
      have hj : j < ds.length := by omega
      have e0 : (0 : Int) + (j : Int) = (j : Int) := by omega
      obtain ⟨dx1, w1, hx1, hw1⟩ := sc6.same s10
      refine ⟨_, rfl, x, dx1, _, rfl, hx1, kf_no _ (by decide +kernel), _, rfl, x, ds, j, by rw [e0]; rfl, sc6.same s10, r, hj, fun c1 H11 s11 sc11 => ?_⟩
      have s611 := s10.trans s11
      refine ⟨_, rfl, _, rfl, _, rfl, ?_⟩
      refine slT_to (n := j) (s611.dp hv6) e0 fun w3 H12 s12 hw3 => ?_
      refine ⟨_, rfl, _, rfl, _, _, rfl, rfl, _, rfl, ?_⟩
      refine slT_from (n := j + 1) (z := 0 + (j : Int) + 1) ((s611.trans s12).dp hv6) (by omega) fun w4 H13 s13 hw4 => ?_
      refine catT_go (s13.dp hw3) hw4 (by rw [List.length_take, List.length_drop]; omega) fun w5 H14 s14 hw5 => ?_
      have r3 : Row (ds.take j ++ ds.drop (j + 1)) := ⟨fun d hd => by
        rcases List.mem_append.mp hd with hd | hd
        · exact r.st d (List.mem_of_mem_take hd)
        · exact r.st d (List.mem_of_mem_drop hd), by have := r.len; rw [List.length_append, List.length_take, List.length_drop]; omega⟩
      have s1114 := (s12.trans s13).trans s14
      refine ⟨c1, w5, _, rfl, sc11.same s1114, hw5, r3.st, Nat.le_trans r3.len (by decide), fun H15 s15 => ⟨_, rfl, iteF' rfl ⟨_, rfl, (s611.trans s1114).trans s15⟩⟩⟩
    · rintro σ' H10 ⟨v7, rfl, s10⟩
      exact ⟨_, _, _, _, _, _, _, rfl, s16.trans s10, s10 _ _ h16, fun y hy => (hld y hy).same s10, by rw [List.length_append, h3]; rfl⟩
  · rintro σ H1 ⟨v2, v3, v4, v5, v6, v7, hs, rfl, s1, h1, h2, h3⟩
    refine ⟨_, rfl, .ref hl, hs.length, rfl, .inl ⟨_, SqL.of h1, rfl⟩, _, rfl, by omega, by omega, for_range (n := ((hs.length : Nat) : Int).toNat) (fun i σ H' => ∃ v2 v3 v4 v5 v6 v7, σ = [some (.ref a), some (.ref hl), v2, v3, v4, v5, v6, v7] ∧ Same H1 H') ⟨_, _, _, _, _, _, rfl, Same.refl _⟩ ?_ ?_⟩
    · rintro i σ H2 hi ⟨v2, v3, v4, v5, v6, v7, rfl, s2⟩
      have hi : i < hs.length := by omega
      have hj : hs.length - 1 - i < hs.length := by omega
      refine ⟨_, rfl, _, rfl, .ref hl, hs.length, rfl, .inl ⟨_, SqL.of (s2 _ _ h1), rfl⟩, _, _, rfl, rfl, _, rfl, _, _, rfl, rfl, ?_⟩
      obtain ⟨t, wk, v, ds, e1, e2, e3, e4, e5⟩ := ((h2 _ (List.getElem_mem hj)).same s2).ex
      refine ⟨hl, hs, _, .ref t, rfl, rfl, SqL.of (s2 _ _ h1), at_of (j := hs.length - 1 - i) (by omega) (by rw [List.getElem?_eq_getElem hj, e1]), ?_⟩
      refine ⟨t, [.ref wk, v], rfl, SqT.of e2, rfl, _, _, rfl, _, _, rfl, rfl, ?_⟩
      refine ⟨_, rfl, _, rfl, wk, v, ds, rfl, e3, e4, e5.st, Nat.le_trans e5.len (by decide), fun H3 s3 => ⟨_, rfl, iteF' rfl ⟨_, _, _, _, _, _, rfl, s2.trans s3⟩⟩⟩
    · rintro σ H2 ⟨v2, v3, v4, v5, v6, v7, rfl, s2⟩
      exact q _
end
end Y

namespace Y
open PySem L2
theorem tx_of {K : PySem.W.Frag} {h : Heap} {mg : Str → Option Value} (X : K.In h) (G : h.Ns mainGlobals mg)
    {C_Script f_is_whole f_is_step f_Script_init f_Script_len f_Script_add f_Script_has f_Script_steps f_Script_without f_script_text f_well f_draw f_menu f_row f_same f_l_script_text f_texted f_law A_STEPS A_STEPS_2 A_STEPS_3 A_STEPS_4 A_STEPS_5 A_STEPS_6 A_STEPS_7 A_STEPS_8 A_STEPS_9 A_STEPS_10 A_STEPS_11 A_STEPS_12 A_STEPS_13 : Addr} {kV_is_whole dc_is_whole pm_is_whole cd_is_whole ct_is_whole oc_is_whole kV_is_step dc_is_step pm_is_step cd_is_step ct_is_step oc_is_step kV_Script_init dc_Script_init pm_Script_init cd_Script_init ct_Script_init oc_Script_init kV_Script_len dc_Script_len pm_Script_len cd_Script_len ct_Script_len oc_Script_len kV_Script_add dc_Script_add pm_Script_add cd_Script_add ct_Script_add oc_Script_add kV_Script_has dc_Script_has pm_Script_has cd_Script_has ct_Script_has oc_Script_has kV_Script_steps dc_Script_steps pm_Script_steps cd_Script_steps ct_Script_steps oc_Script_steps kV_Script_without dc_Script_without pm_Script_without cd_Script_without ct_Script_without oc_Script_without kV_script_text dc_script_text pm_script_text cd_script_text ct_script_text oc_script_text kV_well dc_well pm_well cd_well ct_well oc_well kV_draw dc_draw pm_draw cd_draw ct_draw oc_draw kV_menu dc_menu pm_menu cd_menu ct_menu oc_menu kV_row dc_row pm_row cd_row ct_row oc_row kV_same dc_same pm_same cd_same ct_same oc_same kV_l_script_text dc_l_script_text pm_l_script_text cd_l_script_text ct_l_script_text oc_l_script_text kV_texted dc_texted pm_texted cd_texted ct_texted oc_texted kV_law dc_law pm_law cd_law ct_law oc_law : Value} {od_is_whole an_is_whole od_is_step an_is_step od_Script_init an_Script_init od_Script_len an_Script_len od_Script_add an_Script_add od_Script_has an_Script_has od_Script_steps an_Script_steps od_Script_without an_Script_without od_script_text an_script_text od_well an_well od_draw an_draw od_menu an_menu od_row an_row od_same an_same od_l_script_text an_l_script_text od_texted an_texted od_law an_law dd_w_STEPS_0 dd_w_STEPS_13 dd_w_STEPS_15 dd_w_STEPS_18 dd_w_STEPS_21 dd_w_STEPS_24 dd_w_STEPS_27 dd_w_STEPS_30 dd_w_STEPS_33 dd_w_STEPS_36 dd_w_STEPS_39 dd_w_STEPS_42 dd_w_STEPS_45 : Option Addr} {sl_is_whole sl_is_step sl_Script_init sl_Script_len sl_Script_add sl_Script_has sl_Script_steps sl_Script_without sl_script_text sl_well sl_draw sl_menu sl_row sl_same sl_l_script_text sl_texted sl_law ss_w_STEPS_0 ss_w_STEPS_13 ss_w_STEPS_15 ss_w_STEPS_18 ss_w_STEPS_21 ss_w_STEPS_24 ss_w_STEPS_27 ss_w_STEPS_30 ss_w_STEPS_33 ss_w_STEPS_36 ss_w_STEPS_39 ss_w_STEPS_42 ss_w_STEPS_45 : Array (Option Value)} {tk_STEPS_15 tk_STEPS_17 tk_STEPS_18 tk_STEPS_20 tk_STEPS_21 tk_STEPS_23 tk_STEPS_24 tk_STEPS_26 tk_STEPS_27 tk_STEPS_29 tk_STEPS_30 tk_STEPS_32 tk_STEPS_33 tk_STEPS_35 tk_STEPS_36 tk_STEPS_38 tk_STEPS_39 tk_STEPS_41 tk_STEPS_42 tk_STEPS_44 tk_STEPS_45 tk_STEPS_47 tk_STEPS_48 tk_MOST_STEPS tk_NOTHING tk_BETWEEN : Tok} {nn_w_STEPS_0 nn_w_STEPS_13 nn_w_STEPS_15 nn_w_STEPS_18 nn_w_STEPS_21 nn_w_STEPS_24 nn_w_STEPS_27 nn_w_STEPS_30 nn_w_STEPS_33 nn_w_STEPS_36 nn_w_STEPS_39 nn_w_STEPS_42 nn_w_STEPS_45 : Nat}
    (cn : PySem.W.specialIn K (.builtin "object.__class__") "__get__" = some (some (.builtin "getset_descriptor.__get__")))
    (ctk : PySem.W.takesIn K (.builtin "object.__class__") = some true)
    (nC_Script : PySem.W.nsIn K mainGlobals "Script" = some (some (.ref C_Script)))
    (a_is_whole : PySem.W.nsIn K mainGlobals "is_whole" = some (some (.ref f_is_whole)))
    (l_is_whole : K.lookup f_is_whole = some ⟨oc_is_whole, od_is_whole, .func (PySem.W.fnOf "is_whole" "is_whole" (defArgs s_is_whole) (defBody s_is_whole) (defScope s_is_whole) .none kV_is_whole dc_is_whole pm_is_whole an_is_whole cd_is_whole ct_is_whole), sl_is_whole⟩)
    (c_is_whole : PySem.W.codeIn K cd_is_whole "is_whole" = true)
    (k_is_whole : PySem.W.keepIn K (.ref f_is_whole) = true)
    (a_is_step : PySem.W.nsIn K mainGlobals "is_step" = some (some (.ref f_is_step)))
    (l_is_step : K.lookup f_is_step = some ⟨oc_is_step, od_is_step, .func (PySem.W.fnOf "is_step" "is_step" (defArgs s_is_step) (defBody s_is_step) (defScope s_is_step) .none kV_is_step dc_is_step pm_is_step an_is_step cd_is_step ct_is_step), sl_is_step⟩)
    (c_is_step : PySem.W.codeIn K cd_is_step "is_step" = true)
    (k_is_step : PySem.W.keepIn K (.ref f_is_step) = true)
    (a_Script_init : PySem.W.findIn K (.ref C_Script) "__init__" = some (some (.ref f_Script_init)))
    (i_Script_init : PySem.W.isFn K (.ref f_Script_init) = true)
    (l_Script_init : K.lookup f_Script_init = some ⟨oc_Script_init, od_Script_init, .func (PySem.W.fnOf "__init__" "Script.__init__" (defArgs s_Script_init) (defBody s_Script_init) (defScope s_Script_init) .none kV_Script_init dc_Script_init pm_Script_init an_Script_init cd_Script_init ct_Script_init), sl_Script_init⟩)
    (c_Script_init : PySem.W.codeIn K cd_Script_init "Script.__init__" = true)
    (k_Script_init : PySem.W.keepIn K (.ref f_Script_init) = true)
    (a_Script_len : PySem.W.findIn K (.ref C_Script) "__len__" = some (some (.ref f_Script_len)))
    (i_Script_len : PySem.W.isFn K (.ref f_Script_len) = true)
    (l_Script_len : K.lookup f_Script_len = some ⟨oc_Script_len, od_Script_len, .func (PySem.W.fnOf "__len__" "Script.__len__" (defArgs s_Script_len) (defBody s_Script_len) (defScope s_Script_len) .none kV_Script_len dc_Script_len pm_Script_len an_Script_len cd_Script_len ct_Script_len), sl_Script_len⟩)
    (c_Script_len : PySem.W.codeIn K cd_Script_len "Script.__len__" = true)
    (k_Script_len : PySem.W.keepIn K (.ref f_Script_len) = true)
    (a_Script_add : PySem.W.findIn K (.ref C_Script) "__add__" = some (some (.ref f_Script_add)))
    (i_Script_add : PySem.W.isFn K (.ref f_Script_add) = true)
    (l_Script_add : K.lookup f_Script_add = some ⟨oc_Script_add, od_Script_add, .func (PySem.W.fnOf "__add__" "Script.__add__" (defArgs s_Script_add) (defBody s_Script_add) (defScope s_Script_add) .none kV_Script_add dc_Script_add pm_Script_add an_Script_add cd_Script_add ct_Script_add), sl_Script_add⟩)
    (c_Script_add : PySem.W.codeIn K cd_Script_add "Script.__add__" = true)
    (k_Script_add : PySem.W.keepIn K (.ref f_Script_add) = true)
    (a_Script_has : PySem.W.findIn K (.ref C_Script) "has" = some (some (.ref f_Script_has)))
    (i_Script_has : PySem.W.isFn K (.ref f_Script_has) = true)
    (l_Script_has : K.lookup f_Script_has = some ⟨oc_Script_has, od_Script_has, .func (PySem.W.fnOf "has" "Script.has" (defArgs s_Script_has) (defBody s_Script_has) (defScope s_Script_has) .none kV_Script_has dc_Script_has pm_Script_has an_Script_has cd_Script_has ct_Script_has), sl_Script_has⟩)
    (c_Script_has : PySem.W.codeIn K cd_Script_has "Script.has" = true)
    (k_Script_has : PySem.W.keepIn K (.ref f_Script_has) = true)
    (a_Script_steps : PySem.W.findIn K (.ref C_Script) "steps" = some (some (.ref f_Script_steps)))
    (i_Script_steps : PySem.W.isFn K (.ref f_Script_steps) = true)
    (l_Script_steps : K.lookup f_Script_steps = some ⟨oc_Script_steps, od_Script_steps, .func (PySem.W.fnOf "steps" "Script.steps" (defArgs s_Script_steps) (defBody s_Script_steps) (defScope s_Script_steps) .none kV_Script_steps dc_Script_steps pm_Script_steps an_Script_steps cd_Script_steps ct_Script_steps), sl_Script_steps⟩)
    (c_Script_steps : PySem.W.codeIn K cd_Script_steps "Script.steps" = true)
    (k_Script_steps : PySem.W.keepIn K (.ref f_Script_steps) = true)
    (a_Script_without : PySem.W.findIn K (.ref C_Script) "without" = some (some (.ref f_Script_without)))
    (i_Script_without : PySem.W.isFn K (.ref f_Script_without) = true)
    (l_Script_without : K.lookup f_Script_without = some ⟨oc_Script_without, od_Script_without, .func (PySem.W.fnOf "without" "Script.without" (defArgs s_Script_without) (defBody s_Script_without) (defScope s_Script_without) .none kV_Script_without dc_Script_without pm_Script_without an_Script_without cd_Script_without ct_Script_without), sl_Script_without⟩)
    (c_Script_without : PySem.W.codeIn K cd_Script_without "Script.without" = true)
    (k_Script_without : PySem.W.keepIn K (.ref f_Script_without) = true)
    (a_script_text : PySem.W.nsIn K mainGlobals "script_text" = some (some (.ref f_script_text)))
    (l_script_text : K.lookup f_script_text = some ⟨oc_script_text, od_script_text, .func (PySem.W.fnOf "script_text" "script_text" (defArgs s_script_text) (defBody s_script_text) (defScope s_script_text) .none kV_script_text dc_script_text pm_script_text an_script_text cd_script_text ct_script_text), sl_script_text⟩)
    (c_script_text : PySem.W.codeIn K cd_script_text "script_text" = true)
    (k_script_text : PySem.W.keepIn K (.ref f_script_text) = true)
    (a_well : PySem.W.nsIn K mainGlobals "_law_well" = some (some (.ref f_well)))
    (l_well : K.lookup f_well = some ⟨oc_well, od_well, .func (PySem.W.fnOf "_law_well" "_law_well" (defArgs s_well) (defBody s_well) (defScope s_well) .none kV_well dc_well pm_well an_well cd_well ct_well), sl_well⟩)
    (c_well : PySem.W.codeIn K cd_well "_law_well" = true)
    (k_well : PySem.W.keepIn K (.ref f_well) = true)
    (a_draw : PySem.W.nsIn K mainGlobals "_law_draw" = some (some (.ref f_draw)))
    (l_draw : K.lookup f_draw = some ⟨oc_draw, od_draw, .func (PySem.W.fnOf "_law_draw" "_law_draw" (defArgs s_draw) (defBody s_draw) (defScope s_draw) .none kV_draw dc_draw pm_draw an_draw cd_draw ct_draw), sl_draw⟩)
    (c_draw : PySem.W.codeIn K cd_draw "_law_draw" = true)
    (k_draw : PySem.W.keepIn K (.ref f_draw) = true)
    (a_menu : PySem.W.nsIn K mainGlobals "_law_menu" = some (some (.ref f_menu)))
    (l_menu : K.lookup f_menu = some ⟨oc_menu, od_menu, .func (PySem.W.fnOf "_law_menu" "_law_menu" (defArgs s_menu) (defBody s_menu) (defScope s_menu) .none kV_menu dc_menu pm_menu an_menu cd_menu ct_menu), sl_menu⟩)
    (c_menu : PySem.W.codeIn K cd_menu "_law_menu" = true)
    (k_menu : PySem.W.keepIn K (.ref f_menu) = true)
    (a_row : PySem.W.nsIn K mainGlobals "_law_row" = some (some (.ref f_row)))
    (l_row : K.lookup f_row = some ⟨oc_row, od_row, .func (PySem.W.fnOf "_law_row" "_law_row" (defArgs s_row) (defBody s_row) (defScope s_row) .none kV_row dc_row pm_row an_row cd_row ct_row), sl_row⟩)
    (c_row : PySem.W.codeIn K cd_row "_law_row" = true)
    (k_row : PySem.W.keepIn K (.ref f_row) = true)
    (a_same : PySem.W.nsIn K mainGlobals "_law_same" = some (some (.ref f_same)))
    (l_same : K.lookup f_same = some ⟨oc_same, od_same, .func (PySem.W.fnOf "_law_same" "_law_same" (defArgs s_same) (defBody s_same) (defScope s_same) .none kV_same dc_same pm_same an_same cd_same ct_same), sl_same⟩)
    (c_same : PySem.W.codeIn K cd_same "_law_same" = true)
    (k_same : PySem.W.keepIn K (.ref f_same) = true)
    (a_l_script_text : PySem.W.nsIn K mainGlobals "_law_script_text" = some (some (.ref f_l_script_text)))
    (l_l_script_text : K.lookup f_l_script_text = some ⟨oc_l_script_text, od_l_script_text, .func (PySem.W.fnOf "_law_script_text" "_law_script_text" (defArgs s_l_script_text) (defBody s_l_script_text) (defScope s_l_script_text) .none kV_l_script_text dc_l_script_text pm_l_script_text an_l_script_text cd_l_script_text ct_l_script_text), sl_l_script_text⟩)
    (c_l_script_text : PySem.W.codeIn K cd_l_script_text "_law_script_text" = true)
    (k_l_script_text : PySem.W.keepIn K (.ref f_l_script_text) = true)
    (a_texted : PySem.W.nsIn K mainGlobals "_law_texted" = some (some (.ref f_texted)))
    (l_texted : K.lookup f_texted = some ⟨oc_texted, od_texted, .func (PySem.W.fnOf "_law_texted" "_law_texted" (defArgs s_texted) (defBody s_texted) (defScope s_texted) .none kV_texted dc_texted pm_texted an_texted cd_texted ct_texted), sl_texted⟩)
    (c_texted : PySem.W.codeIn K cd_texted "_law_texted" = true)
    (k_texted : PySem.W.keepIn K (.ref f_texted) = true)
    (a_law : PySem.W.nsIn K mainGlobals "law" = some (some (.ref f_law)))
    (l_law : K.lookup f_law = some ⟨oc_law, od_law, .func (PySem.W.fnOf "law" "law" (defArgs s_law) (defBody s_law) (defScope s_law) .none kV_law dc_law pm_law an_law cd_law ct_law), sl_law⟩)
    (c_law : PySem.W.codeIn K cd_law "law" = true)
    (k_law : PySem.W.keepIn K (.ref f_law) = true)
    (pg_Script : PySem.W.plainGet K C_Script Str.empty = true)
    (hd_Script : PySem.W.hasDictIn K C_Script = true)
    (po_Script : PySem.W.plainOver K C_Script = true)
    (sa_Script : PySem.W.findIn K (.ref C_Script) "__setattr__" = some (some (.builtin "object.__setattr__")))
    (mk_Script : PySem.W.makesIn K C_Script = true)
    (kc_Script : PySem.W.keepIn K (.ref C_Script) = true)
    (ha_Script : PySem.W.findIn K (.ref C_Script) "__class__" = some (some (.builtin "object.__class__")))
    (hm_Script : PySem.W.mroIn K C_Script (.type "object") = some true)
    (sf_Script : PySem.W.selfFirst K C_Script = true)
    (n_Script_kept_steps : PySem.W.findIn K (.ref C_Script) "kept_steps" = some none)
    (v_STEPS : PySem.W.nsIn K mainGlobals "STEPS" = some (some (.ref A_STEPS)))
    (w_STEPS_0 : K.lookup A_STEPS = some ⟨.type "tuple", dd_w_STEPS_0, .seq #[.ref A_STEPS_2, .ref A_STEPS_3, .ref A_STEPS_4, .ref A_STEPS_5, .ref A_STEPS_6, .ref A_STEPS_7, .ref A_STEPS_8, .ref A_STEPS_9, .ref A_STEPS_10, .ref A_STEPS_11, .ref A_STEPS_12, .ref A_STEPS_13] nn_w_STEPS_0, ss_w_STEPS_0⟩)
    (w_STEPS_13 : K.lookup A_STEPS_13 = some ⟨.type "tuple", dd_w_STEPS_13, .seq #[.str "drop" tk_STEPS_15] nn_w_STEPS_13, ss_w_STEPS_13⟩)
    (w_STEPS_15 : K.lookup A_STEPS_12 = some ⟨.type "tuple", dd_w_STEPS_15, .seq #[.str "tie" tk_STEPS_17, .str "free" tk_STEPS_18] nn_w_STEPS_15, ss_w_STEPS_15⟩)
    (w_STEPS_18 : K.lookup A_STEPS_11 = some ⟨.type "tuple", dd_w_STEPS_18, .seq #[.str "tie" tk_STEPS_20, .str "all" tk_STEPS_21] nn_w_STEPS_18, ss_w_STEPS_18⟩)
    (w_STEPS_21 : K.lookup A_STEPS_10 = some ⟨.type "tuple", dd_w_STEPS_21, .seq #[.str "tie" tk_STEPS_23, .str "new" tk_STEPS_24] nn_w_STEPS_21, ss_w_STEPS_21⟩)
    (w_STEPS_24 : K.lookup A_STEPS_9 = some ⟨.type "tuple", dd_w_STEPS_24, .seq #[.str "label" tk_STEPS_26, .str "free" tk_STEPS_27] nn_w_STEPS_24, ss_w_STEPS_24⟩)
    (w_STEPS_27 : K.lookup A_STEPS_8 = some ⟨.type "tuple", dd_w_STEPS_27, .seq #[.str "label" tk_STEPS_29, .str "all" tk_STEPS_30] nn_w_STEPS_27, ss_w_STEPS_27⟩)
    (w_STEPS_30 : K.lookup A_STEPS_7 = some ⟨.type "tuple", dd_w_STEPS_30, .seq #[.str "label" tk_STEPS_32, .str "new" tk_STEPS_33] nn_w_STEPS_30, ss_w_STEPS_30⟩)
    (w_STEPS_33 : K.lookup A_STEPS_6 = some ⟨.type "tuple", dd_w_STEPS_33, .seq #[.str "start" tk_STEPS_35, .str "free" tk_STEPS_36] nn_w_STEPS_33, ss_w_STEPS_33⟩)
    (w_STEPS_36 : K.lookup A_STEPS_5 = some ⟨.type "tuple", dd_w_STEPS_36, .seq #[.str "start" tk_STEPS_38, .str "all" tk_STEPS_39] nn_w_STEPS_36, ss_w_STEPS_36⟩)
    (w_STEPS_39 : K.lookup A_STEPS_4 = some ⟨.type "tuple", dd_w_STEPS_39, .seq #[.str "start" tk_STEPS_41, .str "new" tk_STEPS_42] nn_w_STEPS_39, ss_w_STEPS_39⟩)
    (w_STEPS_42 : K.lookup A_STEPS_3 = some ⟨.type "tuple", dd_w_STEPS_42, .seq #[.str "make" tk_STEPS_44, .str "standing" tk_STEPS_45] nn_w_STEPS_42, ss_w_STEPS_42⟩)
    (w_STEPS_45 : K.lookup A_STEPS_2 = some ⟨.type "tuple", dd_w_STEPS_45, .seq #[.str "make" tk_STEPS_47, .str "all" tk_STEPS_48] nn_w_STEPS_45, ss_w_STEPS_45⟩)
    (v_MOST_STEPS : PySem.W.nsIn K mainGlobals "MOST_STEPS" = some (some (.int 12 tk_MOST_STEPS)))
    (v_NOTHING : PySem.W.nsIn K mainGlobals "NOTHING" = some (some (.str "nothing" tk_NOTHING)))
    (v_BETWEEN : PySem.W.nsIn K mainGlobals "BETWEEN" = some (some (.str ", " tk_BETWEEN)))
    (z_len : PySem.W.nsIn K mainGlobals "len" = some none)
    (z_isinstance : PySem.W.nsIn K mainGlobals "isinstance" = some none)
    (z_int : PySem.W.nsIn K mainGlobals "int" = some none)
    (z_bool : PySem.W.nsIn K mainGlobals "bool" = some none)
    (z_str : PySem.W.nsIn K mainGlobals "str" = some none)
    (z_tuple : PySem.W.nsIn K mainGlobals "tuple" = some none)
    (z_list : PySem.W.nsIn K mainGlobals "list" = some none)
    (z_all : PySem.W.nsIn K mainGlobals "all" = some none)
    (z_max : PySem.W.nsIn K mainGlobals "max" = some none)
    (z_range : PySem.W.nsIn K mainGlobals "range" = some none)
    (z_enumerate : PySem.W.nsIn K mainGlobals "enumerate" = some none) :
    ∃ T : Tx K mg, ∀ (s : Shared) (v : Value), BindsTo s T.law.fd ⟨[v], []⟩ [("script", v)] := ⟨{
    c_Script := C_Script, g_Script := PySem.W.mg_of X G nC_Script,
    is_whole := ⟨f_is_whole, _, fun_mk (st := s_is_whole) l_is_whole c_is_whole k_is_whole, PySem.W.mg_of X G a_is_whole, ((fun_mk (st := s_is_whole) l_is_whole c_is_whole k_is_whole).binds (ps := ["thing"]) fun _ _ _ _ _ _ us hl => match us, hl with | [_], _ => rfl)⟩,
    is_step := ⟨f_is_step, _, fun_mk (st := s_is_step) l_is_step c_is_step k_is_step, PySem.W.mg_of X G a_is_step, ((fun_mk (st := s_is_step) l_is_step c_is_step k_is_step).binds (ps := ["thing"]) fun _ _ _ _ _ _ us hl => match us, hl with | [_], _ => rfl)⟩,
    Script_init := ⟨f_Script_init, _, fun_mk (st := s_Script_init) l_Script_init c_Script_init k_Script_init, ⟨a_Script_init, i_Script_init, k_Script_init⟩, ((fun_mk (st := s_Script_init) l_Script_init c_Script_init k_Script_init).binds (ps := ["self", "steps"]) fun _ _ _ _ _ _ us hl => match us, hl with | [_, _], _ => rfl)⟩,
    Script_len := ⟨f_Script_len, _, fun_mk (st := s_Script_len) l_Script_len c_Script_len k_Script_len, ⟨a_Script_len, i_Script_len, k_Script_len⟩, ((fun_mk (st := s_Script_len) l_Script_len c_Script_len k_Script_len).binds (ps := ["self"]) fun _ _ _ _ _ _ us hl => match us, hl with | [_], _ => rfl)⟩,
    Script_add := ⟨f_Script_add, _, fun_mk (st := s_Script_add) l_Script_add c_Script_add k_Script_add, ⟨a_Script_add, i_Script_add, k_Script_add⟩, ((fun_mk (st := s_Script_add) l_Script_add c_Script_add k_Script_add).binds (ps := ["self", "other"]) fun _ _ _ _ _ _ us hl => match us, hl with | [_, _], _ => rfl)⟩,
    Script_has := ⟨f_Script_has, _, fun_mk (st := s_Script_has) l_Script_has c_Script_has k_Script_has, ⟨a_Script_has, i_Script_has, k_Script_has⟩, ((fun_mk (st := s_Script_has) l_Script_has c_Script_has k_Script_has).binds (ps := ["self", "index"]) fun _ _ _ _ _ _ us hl => match us, hl with | [_, _], _ => rfl)⟩,
    Script_steps := ⟨f_Script_steps, _, fun_mk (st := s_Script_steps) l_Script_steps c_Script_steps k_Script_steps, ⟨a_Script_steps, i_Script_steps, k_Script_steps⟩, ((fun_mk (st := s_Script_steps) l_Script_steps c_Script_steps k_Script_steps).binds (ps := ["self"]) fun _ _ _ _ _ _ us hl => match us, hl with | [_], _ => rfl)⟩,
    Script_without := ⟨f_Script_without, _, fun_mk (st := s_Script_without) l_Script_without c_Script_without k_Script_without, ⟨a_Script_without, i_Script_without, k_Script_without⟩, ((fun_mk (st := s_Script_without) l_Script_without c_Script_without k_Script_without).binds (ps := ["self", "index"]) fun _ _ _ _ _ _ us hl => match us, hl with | [_, _], _ => rfl)⟩,
    script_text := ⟨f_script_text, _, fun_mk (st := s_script_text) l_script_text c_script_text k_script_text, PySem.W.mg_of X G a_script_text, ((fun_mk (st := s_script_text) l_script_text c_script_text k_script_text).binds (ps := ["script"]) fun _ _ _ _ _ _ us hl => match us, hl with | [_], _ => rfl)⟩,
    well := ⟨f_well, _, fun_mk (st := s_well) l_well c_well k_well, PySem.W.mg_of X G a_well, ((fun_mk (st := s_well) l_well c_well k_well).binds (ps := ["script", "k"]) fun _ _ _ _ _ _ us hl => match us, hl with | [_, _], _ => rfl)⟩,
    draw := ⟨f_draw, _, fun_mk (st := s_draw) l_draw c_draw k_draw, PySem.W.mg_of X G a_draw, ((fun_mk (st := s_draw) l_draw c_draw k_draw).binds (ps := ["well", "many"]) fun _ _ _ _ _ _ us hl => match us, hl with | [_, _], _ => rfl)⟩,
    menu := ⟨f_menu, _, fun_mk (st := s_menu) l_menu c_menu k_menu, PySem.W.mg_of X G a_menu, ((fun_mk (st := s_menu) l_menu c_menu k_menu).binds (ps := []) fun _ _ _ _ _ _ us hl => match us, hl with | [], _ => rfl)⟩,
    row := ⟨f_row, _, fun_mk (st := s_row) l_row c_row k_row, PySem.W.mg_of X G a_row, ((fun_mk (st := s_row) l_row c_row k_row).binds (ps := ["well", "most"]) fun _ _ _ _ _ _ us hl => match us, hl with | [_, _], _ => rfl)⟩,
    same := ⟨f_same, _, fun_mk (st := s_same) l_same c_same k_same, PySem.W.mg_of X G a_same, ((fun_mk (st := s_same) l_same c_same k_same).binds (ps := ["actual", "expected"]) fun _ _ _ _ _ _ us hl => match us, hl with | [_, _], _ => rfl)⟩,
    l_script_text := ⟨f_l_script_text, _, fun_mk (st := s_l_script_text) l_l_script_text c_l_script_text k_l_script_text, PySem.W.mg_of X G a_l_script_text, ((fun_mk (st := s_l_script_text) l_l_script_text c_l_script_text k_l_script_text).binds (ps := ["row"]) fun _ _ _ _ _ _ us hl => match us, hl with | [_], _ => rfl)⟩,
    texted := ⟨f_texted, _, fun_mk (st := s_texted) l_texted c_texted k_texted, PySem.W.mg_of X G a_texted, ((fun_mk (st := s_texted) l_texted c_texted k_texted).binds (ps := ["work", "row"]) fun _ _ _ _ _ _ us hl => match us, hl with | [_, _], _ => rfl)⟩,
    law := ⟨f_law, _, fun_mk (st := s_law) l_law c_law k_law, PySem.W.mg_of X G a_law, ((fun_mk (st := s_law) l_law c_law k_law).binds (ps := ["script"]) fun _ _ _ _ _ _ us hl => match us, hl with | [_], _ => rfl)⟩,
    cl_Script := ⟨pg_Script, hd_Script, po_Script, sa_Script⟩,
    ic_Script := ⟨⟨pg_Script, hd_Script, po_Script, sa_Script⟩, ha_Script, cn, ctk, hm_Script⟩,
    mk_Script := ⟨mk_Script, a_Script_init, i_Script_init, kc_Script⟩,
    sf_Script := sf_Script,
    na_Script_kept_steps := n_Script_kept_steps,
    a_STEPS := A_STEPS, g_STEPS := PySem.W.mg_of X G v_STEPS, d_STEPS := fun H => .tup (xs := [.ref A_STEPS_2, .ref A_STEPS_3, .ref A_STEPS_4, .ref A_STEPS_5, .ref A_STEPS_6, .ref A_STEPS_7, .ref A_STEPS_8, .ref A_STEPS_9, .ref A_STEPS_10, .ref A_STEPS_11, .ref A_STEPS_12, .ref A_STEPS_13]) (.inr ⟨_, _, _, w_STEPS_0, rfl, rfl, (by show 12 ≤ sizeLine; decide), (.cons rfl (.cons rfl (.cons rfl (.cons rfl (.cons rfl (.cons rfl (.cons rfl (.cons rfl (.cons rfl (.cons rfl (.cons rfl (.cons rfl .nil))))))))))))⟩) (.cons (.tup (xs := [(.str "make"), (.str "all")]) (.inr ⟨_, _, _, w_STEPS_45, rfl, rfl, (by show 2 ≤ sizeLine; decide), (.cons ⟨_, rfl⟩ (.cons ⟨_, rfl⟩ .nil))⟩) (.cons (.str _) (.cons (.str _) .nil))) (.cons (.tup (xs := [(.str "make"), (.str "standing")]) (.inr ⟨_, _, _, w_STEPS_42, rfl, rfl, (by show 2 ≤ sizeLine; decide), (.cons ⟨_, rfl⟩ (.cons ⟨_, rfl⟩ .nil))⟩) (.cons (.str _) (.cons (.str _) .nil))) (.cons (.tup (xs := [(.str "start"), (.str "new")]) (.inr ⟨_, _, _, w_STEPS_39, rfl, rfl, (by show 2 ≤ sizeLine; decide), (.cons ⟨_, rfl⟩ (.cons ⟨_, rfl⟩ .nil))⟩) (.cons (.str _) (.cons (.str _) .nil))) (.cons (.tup (xs := [(.str "start"), (.str "all")]) (.inr ⟨_, _, _, w_STEPS_36, rfl, rfl, (by show 2 ≤ sizeLine; decide), (.cons ⟨_, rfl⟩ (.cons ⟨_, rfl⟩ .nil))⟩) (.cons (.str _) (.cons (.str _) .nil))) (.cons (.tup (xs := [(.str "start"), (.str "free")]) (.inr ⟨_, _, _, w_STEPS_33, rfl, rfl, (by show 2 ≤ sizeLine; decide), (.cons ⟨_, rfl⟩ (.cons ⟨_, rfl⟩ .nil))⟩) (.cons (.str _) (.cons (.str _) .nil))) (.cons (.tup (xs := [(.str "label"), (.str "new")]) (.inr ⟨_, _, _, w_STEPS_30, rfl, rfl, (by show 2 ≤ sizeLine; decide), (.cons ⟨_, rfl⟩ (.cons ⟨_, rfl⟩ .nil))⟩) (.cons (.str _) (.cons (.str _) .nil))) (.cons (.tup (xs := [(.str "label"), (.str "all")]) (.inr ⟨_, _, _, w_STEPS_27, rfl, rfl, (by show 2 ≤ sizeLine; decide), (.cons ⟨_, rfl⟩ (.cons ⟨_, rfl⟩ .nil))⟩) (.cons (.str _) (.cons (.str _) .nil))) (.cons (.tup (xs := [(.str "label"), (.str "free")]) (.inr ⟨_, _, _, w_STEPS_24, rfl, rfl, (by show 2 ≤ sizeLine; decide), (.cons ⟨_, rfl⟩ (.cons ⟨_, rfl⟩ .nil))⟩) (.cons (.str _) (.cons (.str _) .nil))) (.cons (.tup (xs := [(.str "tie"), (.str "new")]) (.inr ⟨_, _, _, w_STEPS_21, rfl, rfl, (by show 2 ≤ sizeLine; decide), (.cons ⟨_, rfl⟩ (.cons ⟨_, rfl⟩ .nil))⟩) (.cons (.str _) (.cons (.str _) .nil))) (.cons (.tup (xs := [(.str "tie"), (.str "all")]) (.inr ⟨_, _, _, w_STEPS_18, rfl, rfl, (by show 2 ≤ sizeLine; decide), (.cons ⟨_, rfl⟩ (.cons ⟨_, rfl⟩ .nil))⟩) (.cons (.str _) (.cons (.str _) .nil))) (.cons (.tup (xs := [(.str "tie"), (.str "free")]) (.inr ⟨_, _, _, w_STEPS_15, rfl, rfl, (by show 2 ≤ sizeLine; decide), (.cons ⟨_, rfl⟩ (.cons ⟨_, rfl⟩ .nil))⟩) (.cons (.str _) (.cons (.str _) .nil))) (.cons (.tup (xs := [(.str "drop")]) (.inr ⟨_, _, _, w_STEPS_13, rfl, rfl, (by show 1 ≤ sizeLine; decide), (.cons ⟨_, rfl⟩ .nil)⟩) (.cons (.str _) .nil)) .nil)))))))))))),
    t_MOST_STEPS := tk_MOST_STEPS, g_MOST_STEPS := PySem.W.mg_of X G v_MOST_STEPS,
    t_NOTHING := tk_NOTHING, g_NOTHING := PySem.W.mg_of X G v_NOTHING,
    t_BETWEEN := tk_BETWEEN, g_BETWEEN := PySem.W.mg_of X G v_BETWEEN,
    b_len := PySem.W.mg_none_of X G z_len,
    b_isinstance := PySem.W.mg_none_of X G z_isinstance,
    b_int := PySem.W.mg_none_of X G z_int,
    b_bool := PySem.W.mg_none_of X G z_bool,
    b_str := PySem.W.mg_none_of X G z_str,
    b_tuple := PySem.W.mg_none_of X G z_tuple,
    b_list := PySem.W.mg_none_of X G z_list,
    b_all := PySem.W.mg_none_of X G z_all,
    b_max := PySem.W.mg_none_of X G z_max,
    b_range := PySem.W.mg_none_of X G z_range,
    b_enumerate := PySem.W.mg_none_of X G z_enumerate }, fun s v => .of_eq rfl⟩
theorem all_mk {l : PySem.W.OpenLaw} {w : World} {K : PySem.W.Frag} {mg : Str → Option Value} {fa : Addr} (hfa : mg "law" = some (.ref fa)) (h : ∃ T : Tx K mg, ∀ (s : Shared) (v : Value), BindsTo s T.law.fd ⟨[v], []⟩ [("script", v)]) :
    ∃ fd : FuncData, (∀ (s : Shared) (v : Value), BindsTo s fd ⟨[v], []⟩ [("script", v)]) ∧ ∀ base : Heap, K.In base → base.Ns mainGlobals mg → FnOk l.prog w K mg base CX0 12 fa fd ["script"] (spLaw K) := by
  obtain ⟨T, hb⟩ := h
  have e := hfa.symm.trans T.law.g
  cases e
  exact ⟨T.law.fd, hb, fun base _ _ => ok_law T⟩
theorem walk {l : PySem.W.OpenLaw} {q : Program} {loose : List Str} {XP : (Str → Option Value) → Heap → Prop} {YP : World → Heap → Prop} {d : DefRec} {K : Params → PySem.W.Frag} (hn : l.most = some 63) (hdf : d.params.defaults = [])
    (hY : ∀ (w : World) (h : Heap), YP w h → (K w.params).In h)
    (F : ∀ (w : World) (mg : Str → Option Value) (fa : Addr) (h : Heap), (K w.params).In h → h.Ns mainGlobals mg → mg d.name = some (.ref fa) →
      ∃ fd : FuncData, (∀ (s : Shared) (u : Value), BindsTo s fd ⟨[u], []⟩ [("script", u)]) ∧ ∀ base : Heap, (K w.params).In base → base.Ns mainGlobals mg → FnOk l.prog w (K w.params) mg base CX0 12 fa fd ["script"] (spLaw (K w.params))) :
    PySem.W.WalkO q loose XP YP l.row.toRowW d [] (fun f vs => PySem.call f vs) :=
  L2.walk_of (n := 63) (k := 12) (x := "script") (CX := fun _ => CX0) (sp := fun w => spLaw (K w.params)) hn (by decide) hdf ⟨rfl, by decide, by decide⟩ hY F (fun _ _ a ns hl _ hS => ⟨a, ns, rfl, hS, hl, fun _ => rfl⟩) fun _ _ _ _ _ z => z
end Y
open PySem PySem.W PyProof.Rows
set_option maxRecDepth 100000 in
set_option maxHeartbeats 0 in
theorem PySem.Challenge.cw_yearturned_k10_script_texts_holds : PySem.Challenge.rw_yearturned_k10_script_texts.Holds := by
  w_on; o_law; k_head; (case hw => w_witness2)
  k_fill
  refine Y.walk (l := PySem.Challenge.rw_yearturned_k10_script_texts) rfl rfl (fun w h Y => PySem.W.kIn_of Y) ?F
  case F =>
    intro w mg fa h KX G hmg
    refine Y.all_mk hmg ?_
    refine' Y.tx_of KX G ?cn ?ctk ?nC_Script ?a_is_whole ?l_is_whole ?c_is_whole ?k_is_whole ?a_is_step ?l_is_step ?c_is_step ?k_is_step ?a_Script_init ?i_Script_init ?l_Script_init ?c_Script_init ?k_Script_init ?a_Script_len ?i_Script_len ?l_Script_len ?c_Script_len ?k_Script_len ?a_Script_add ?i_Script_add ?l_Script_add ?c_Script_add ?k_Script_add ?a_Script_has ?i_Script_has ?l_Script_has ?c_Script_has ?k_Script_has ?a_Script_steps ?i_Script_steps ?l_Script_steps ?c_Script_steps ?k_Script_steps ?a_Script_without ?i_Script_without ?l_Script_without ?c_Script_without ?k_Script_without ?a_script_text ?l_script_text ?c_script_text ?k_script_text ?a_well ?l_well ?c_well ?k_well ?a_draw ?l_draw ?c_draw ?k_draw ?a_menu ?l_menu ?c_menu ?k_menu ?a_row ?l_row ?c_row ?k_row ?a_same ?l_same ?c_same ?k_same ?a_l_script_text ?l_l_script_text ?c_l_script_text ?k_l_script_text ?a_texted ?l_texted ?c_texted ?k_texted ?a_law ?l_law ?c_law ?k_law ?pg_Script ?hd_Script ?po_Script ?sa_Script ?mk_Script ?kc_Script ?ha_Script ?hm_Script ?sf_Script ?n_Script_kept_steps ?v_STEPS ?w_STEPS_0 ?w_STEPS_13 ?w_STEPS_15 ?w_STEPS_18 ?w_STEPS_21 ?w_STEPS_24 ?w_STEPS_27 ?w_STEPS_30 ?w_STEPS_33 ?w_STEPS_36 ?w_STEPS_39 ?w_STEPS_42 ?w_STEPS_45 ?v_MOST_STEPS ?v_NOTHING ?v_BETWEEN ?z_len ?z_isinstance ?z_int ?z_bool ?z_str ?z_tuple ?z_list ?z_all ?z_max ?z_range ?z_enumerate
    (case cn => k_is)
    (case ctk => k_is)
    (case nC_Script => k_is)
    (case a_is_whole => k_is)
    (case l_is_whole => k_is)
    (case c_is_whole => k_is)
    (case k_is_whole => k_is)
    (case a_is_step => k_is)
    (case l_is_step => k_is)
    (case c_is_step => k_is)
    (case k_is_step => k_is)
    (case a_Script_init => k_is)
    (case i_Script_init => k_is)
    (case l_Script_init => k_is)
    (case c_Script_init => k_is)
    (case k_Script_init => k_is)
    (case a_Script_len => k_is)
    (case i_Script_len => k_is)
    (case l_Script_len => k_is)
    (case c_Script_len => k_is)
    (case k_Script_len => k_is)
    (case a_Script_add => k_is)
    (case i_Script_add => k_is)
    (case l_Script_add => k_is)
    (case c_Script_add => k_is)
    (case k_Script_add => k_is)
    (case a_Script_has => k_is)
    (case i_Script_has => k_is)
    (case l_Script_has => k_is)
    (case c_Script_has => k_is)
    (case k_Script_has => k_is)
    (case a_Script_steps => k_is)
    (case i_Script_steps => k_is)
    (case l_Script_steps => k_is)
    (case c_Script_steps => k_is)
    (case k_Script_steps => k_is)
    (case a_Script_without => k_is)
    (case i_Script_without => k_is)
    (case l_Script_without => k_is)
    (case c_Script_without => k_is)
    (case k_Script_without => k_is)
    (case a_script_text => k_is)
    (case l_script_text => k_is)
    (case c_script_text => k_is)
    (case k_script_text => k_is)
    (case a_well => k_is)
    (case l_well => k_is)
    (case c_well => k_is)
    (case k_well => k_is)
    (case a_draw => k_is)
    (case l_draw => k_is)
    (case c_draw => k_is)
    (case k_draw => k_is)
    (case a_menu => k_is)
    (case l_menu => k_is)
    (case c_menu => k_is)
    (case k_menu => k_is)
    (case a_row => k_is)
    (case l_row => k_is)
    (case c_row => k_is)
    (case k_row => k_is)
    (case a_same => k_is)
    (case l_same => k_is)
    (case c_same => k_is)
    (case k_same => k_is)
    (case a_l_script_text => k_is)
    (case l_l_script_text => k_is)
    (case c_l_script_text => k_is)
    (case k_l_script_text => k_is)
    (case a_texted => k_is)
    (case l_texted => k_is)
    (case c_texted => k_is)
    (case k_texted => k_is)
    (case a_law => k_is)
    (case l_law => k_is)
    (case c_law => k_is)
    (case k_law => k_is)
    (case pg_Script => k_is)
    (case hd_Script => k_is)
    (case po_Script => k_is)
    (case sa_Script => k_is)
    (case mk_Script => k_is)
    (case kc_Script => k_is)
    (case ha_Script => k_is)
    (case hm_Script => k_is)
    (case sf_Script => k_is)
    (case n_Script_kept_steps => k_is)
    (case v_STEPS => k_is)
    (case w_STEPS_0 => k_is)
    (case w_STEPS_13 => k_is)
    (case w_STEPS_15 => k_is)
    (case w_STEPS_18 => k_is)
    (case w_STEPS_21 => k_is)
    (case w_STEPS_24 => k_is)
    (case w_STEPS_27 => k_is)
    (case w_STEPS_30 => k_is)
    (case w_STEPS_33 => k_is)
    (case w_STEPS_36 => k_is)
    (case w_STEPS_39 => k_is)
    (case w_STEPS_42 => k_is)
    (case w_STEPS_45 => k_is)
    (case v_MOST_STEPS => k_is)
    (case v_NOTHING => k_is)
    (case v_BETWEEN => k_is)
    (case z_len => k_is)
    (case z_isinstance => k_is)
    (case z_int => k_is)
    (case z_bool => k_is)
    (case z_str => k_is)
    (case z_tuple => k_is)
    (case z_list => k_is)
    (case z_all => k_is)
    (case z_max => k_is)
    (case z_range => k_is)
    (case z_enumerate => k_is)
