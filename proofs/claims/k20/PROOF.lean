import PyProof.Rows.All
import Wide.All
import OpenK.AllK
import Wide.FinOn
import PyProof.EqAt
import PyProof.EqKinds
import PyProof.TupleCall
import KE.GoesMore
import KE.GoesEnum
import HandS.ForMost
import HandS.Wide
import HandS.Codes
import HandS.Style
import HandS.TupAny
import HandS.IsInst
import HandS.Deep
import HandS.Defaults
import PySem.Challenge.RW_yearturned_k20_old_ledgers
set_option Elab.async false
set_option linter.all false
set_option maxRecDepth 100000
set_option maxHeartbeats 4000000
/-! ### rules that the layer lacks -/
namespace YR
open PySem PySem.SeqAt PyProof.Rows
open AutoSeq1 (wpAny_loadPart')
theorem typeCall_enum1 (a : Addr) : True := True.intro
set_option maxHeartbeats 1000000 in
theorem meets_enum_newT (l : Addr) (items : Array Value) :
    Meets (Builtin.«enumerate.__new__» ⟨[.type "enumerate", .ref l], []⟩) (fun _ R s => s.heap.IsTuple l items ∧
      R (.ok (.ret (.ref (s.heap.push { cls := .type "tuple_iterator", data := .fields #[.ref l, .int 0 0] }).objs.size)))
        { s with heap := (s.heap.push { cls := .type "tuple_iterator", data := .fields #[.ref l, .int 0 0] }).push { cls := .type "enumerate", data := .fields #[.none, .bool false, .ref s.heap.objs.size, rawInt 0, .none, .none] } }) :=
  .of_wp fun prog w A R s h => by
    obtain ⟨hp, g, d, tk, os⟩ := s; obtain ⟨h1, h⟩ := h
    have hsub := sub_enumerate
    have q1 : ∀ {A' : Around} {E : Value → Shared → Prop} {Q : Value → Shared → Prop}, Q (.ref hp.objs.size) ⟨hp.push { cls := .type "tuple_iterator", data := .fields #[.ref l, .int 0 0] }, g, d, tk, os⟩ → wpAny (model prog w) A' (pyIter (.ref l)) Q E ⟨hp, g, d, tk, os⟩ :=
      fun q => wpAny_pyIter_tuple (s := ⟨hp, g, d, tk, os⟩) h1 q
    wp_walk using q1
    refine wpAny_stack_any fun st => wpAny_pure ?_
    split
    · rename_i c _ _ _ _ _
      cases (c == Value.type "enumerate")
      · wp_walk using q1
        exact ⟨_, rfl, h⟩
      · wp_walk using q1
        exact ⟨_, rfl, h⟩
    · wp_walk using q1
      exact ⟨_, rfl, h⟩
section
variable {prog : Program} {w : World} {A : Around} {E : Value → Shared → Prop} {s : Shared}
theorem call_enumerate_tuple {l : Addr} {items : Array Value} {Q : Value → Shared → Prop} (hL : s.heap.IsTuple l items)
    (h : ∀ h', IsEnum h' (s.heap.objs.size + 1) s.heap.objs.size 0 .none → h'.IsTupleIter s.heap.objs.size l 0 → h'.objs.size = s.heap.objs.size + 2 →
      (∀ b o, s.heap.get? b = some o → h'.get? b = some o) → Q (.ref (s.heap.objs.size + 1)) { s with heap := h' }) :
    wpAny (model prog w) A (call (.type "enumerate") [.ref l]) Q E s := by
  refine callType_new F.called_enumerate (by decide) (F.typeCall_enumerate_1 _) (F.newCall_enumerate_1 _) (fun obj => F.args_object_init_2 obj _) F.entry_enumerate_new
    (meets_enum_newT l items) ⟨hL, ?_⟩
  have hz : (s.heap.push { cls := .type "tuple_iterator", data := .fields #[.ref l, .int 0 0] }).objs.size = s.heap.objs.size + 1 := Heap.size_push ..
  show _ ∧ _
  rw [hz]
  have he : IsEnum ((s.heap.push { cls := .type "tuple_iterator", data := .fields #[.ref l, .int 0 0] }).push { cls := .type "enumerate", data := .fields #[.none, .bool false, .ref s.heap.objs.size, rawInt 0, .none, .none] }) (s.heap.objs.size + 1) s.heap.objs.size 0 .none := by
    have := Heap.get?_push_size (s.heap.push { cls := .type "tuple_iterator", data := .fields #[.ref l, .int 0 0] }) (o := { cls := .type "enumerate", data := .fields #[.none, .bool false, .ref s.heap.objs.size, rawInt 0, .none, .none] }) rfl
    rw [hz] at this; exact this
  refine ⟨⟨_, he, rfl⟩, h _ he ⟨_, Heap.get?_push_of_some _ (Heap.get?_push_size _ rfl), rfl, rfl⟩ (by rw [Heap.size_push, hz]) fun b o x => Heap.get?_push_of_some _ (Heap.get?_push_of_some _ x)⟩
end
end YR
namespace L2
open PySem PySem.Spec PyProof.Rows
/-! ### ** of great ints -/
def CPowW (i j : Int) : Prop := 0 ≤ j ∧ ((i.natAbs.log2 : Int) + 1) * j ≤ 2 ^ 27
section
variable {X : Cx}
theorem op_powW : OpR X (binaryOp .Pow) (rI CPowW fun i j => .int (i ^ j.toNat)) := opI fun i j _ _ _ _ _ hc q => by
  refine PyProof.Rows.pow_int hc.1 ?_ q
  have h1 : (Builtin.Int.intBits i : Int) ≤ (i.natAbs.log2 : Int) + 1 := by
    unfold Builtin.Int.intBits
    split <;> omega
  exact Int.le_trans (Int.mul_le_mul_of_nonneg_right h1 hc.1) hc.2
end
theorem powW {i j : Int} {a : Nat} (h : i.natAbs < 2 ^ a) (h0 : 0 < a) (hj : 0 ≤ j) (hz : (a : Int) * j ≤ 2 ^ 27) : CPowW i j := by
  refine ⟨hj, ?_⟩
  have x := PySem.Flt.log2_lt_of h0 h
  have y : ((i.natAbs.log2 : Int) + 1) ≤ (a : Int) := by omega
  exact Int.le_trans (Int.mul_le_mul_of_nonneg_right y hj) hz
/-! ### x in a tuple of data -/
section
variable {X : Cx}
def rInTD (K : PySem.W.Frag) : R2 := fun x y H Q => ∃ d ds, Dp K H x d ∧ Dp K H y (.tuple ds) ∧ SeqAt.shaped d = true ∧ SeqAt.shaped (.tuple ds) = true ∧ Q (.bl (ds.any fun z => PyData.eqv z d)) H
def rNotInTD (K : PySem.W.Frag) : R2 := fun x y H Q => ∃ d ds, Dp K H x d ∧ Dp K H y (.tuple ds) ∧ SeqAt.shaped d = true ∧ SeqAt.shaped (.tuple ds) = true ∧ Q (.bl (!ds.any fun z => PyData.eqv z d)) H
theorem op_inTD (hu : X.A.units + 65 < cLine) : OpR X (compareOp .In) (rInTD X.K) := by
  intro pins s σ H x y v u Q I rx ry h
  obtain ⟨d, ds, hd, he, sd, se, q⟩ := h
  obtain ⟨as, r1⟩ := Dp.reads I d x v hd rx
  obtain ⟨bs, r2⟩ := Dp.reads I (.tuple ds) y u he ry
  exact SeqAt.in_tuple_reads r2 r1 (SeqAt.canLay_of_shaped se) (SeqAt.canLay_of_shaped sd) (room_in_shaped sd hu) ⟨.bl _, H, I, rfl, q⟩
theorem op_notInTD (hu : X.A.units + 65 < cLine) : OpR X (compareOp .NotIn) (rNotInTD X.K) := by
  intro pins s σ H x y v u Q I rx ry h
  obtain ⟨d, ds, hd, he, sd, se, q⟩ := h
  obtain ⟨as, r1⟩ := Dp.reads I d x v hd rx
  obtain ⟨bs, r2⟩ := Dp.reads I (.tuple ds) y u he ry
  exact SeqAt.notIn_tuple_reads r2 r1 (SeqAt.canLay_of_shaped se) (SeqAt.canLay_of_shaped sd) (room_in_shaped sd hu) ⟨.bl _, H, I, rfl, q⟩
end
/-! ### enumerate(tuple) -/
def IteT (K : PySem.W.Frag) (a : Addr) : It :=
  ⟨fun i H => ∃ (xs : List V) (x : V), SqT K H a xs ∧ xs[i]? = some x, fun i H v H' => ∃ T x, v = .ref T ∧ H T = none ∧ H' = upd H T (.tup [.int (i : Nat), x]) ∧ ∀ xs, SqT K H a xs → xs[i]? = some x, fun i H => ∃ xs : List V, SqT K H a xs ∧ xs.length = i⟩
theorem turn_enumT {P : Program} {w : World} {K : PySem.W.Frag} {elts : List Expr} {kk : Nat} {tpos : Pos} (a e it : Addr) :
    Turn P w K (.Tuple elts kk tpos) (IteT K a) [e, it] e (fun i h => (∃ old, IsEnum h e it ((i : Nat) : Int) old) ∧ h.IsTupleIter it a i ∧ e ≠ it) where
  mem := by simp
  obj := fun i h st b hb => by
    obtain ⟨⟨old, he⟩, ⟨o, ho, hc, hd⟩, _⟩ := st
    have e' : b = e ∨ b = it := by simpa using hb
    rcases e' with z | z
    · rw [z]; exact ⟨_, he, fun v q => nomatch q⟩
    · rw [z]; exact ⟨o, ho, fun v q => by rw [hd] at q; cases q⟩
  keep := fun i h h' st k => let ⟨⟨old, he⟩, hi, hne⟩ := st; ⟨⟨old, k e (by simp) _ he⟩, hi.at fun o q => k it (by simp) o q, hne⟩
  item := by
    intro X hP hw hK hc i pins s σ H E I hf st hg
    subst hP hw hK
    obtain ⟨⟨old, he⟩, hit, hne⟩ := st
    obtain ⟨xs, x, hq, hx⟩ := hg
    obtain ⟨its, rv, p, hz⟩ := I.tuple hq
    obtain ⟨u, hu, ru⟩ := rv.get hx
    have hel : e < s.heap.objs.size := Heap.lt_size he
    have hil : it < s.heap.objs.size := by obtain ⟨_, q, _⟩ := hit; exact Heap.lt_size q
    have hta : a ≠ it := by
      rintro rfl
      obtain ⟨o1, q1, q2, _⟩ := hit
      obtain ⟨o2, q3, q4, _⟩ := p
      rw [q1] at q3; cases q3
      rw [q2] at q4; simp at q4
    have hea : e ∉ [it, a] := by
      intro hb
      rcases List.mem_cons.mp hb with z | z
      · exact hne z
      · have z' : e = a := by simpa using z
        subst z'
        obtain ⟨o2, q3, q4, _⟩ := p
        rw [he] at q3; cases q3
        simp at q4
    have his : i < its.toArray.size := by
      have := (List.getElem?_eq_some_iff.mp hu).1
      simpa using this
    refine wpAny_pyNext_enum_itemD (Draws.tuple (show X.A.in1.handled = none from I.ok.hd hc) it a hta its.toArray) he ⟨hit, p⟩ his hne hea fun y h' tk hy ho hst hT hsz hk => ?_
    have ey : y = u := by
      have q1 : its.toArray[i]? = some y := hy
      have q2 : its.toArray[i]? = some u := by simpa using hu
      rw [q1] at q2; exact Option.some.inj q2
    subst ey
    refine ⟨_, rfl, wpAny_letOwnedTupleGo_enum (s := { s with heap := h', toks := tk + 1 }) ho fun h'' he' sb => ?_⟩
    have hT2 : h''.get? s.heap.objs.size = some { cls := .type "tuple", data := .seq #[.int i tk, y] } := (sb.2 _ (Nat.ne_of_gt hel)).trans hT
    have new : ObjOk X.prog X.w (upd H s.heap.objs.size (.tup [.int (i : Nat), x])) h'' s.heap.objs.size (.tup [.int (i : Nat), x]) :=
      ⟨by show 2 ≤ sizeLine; decide, [.int i tk, y], .cons ⟨_, rfl⟩ (.cons ru .nil), ⟨_, hT2, rfl, _, rfl⟩⟩
    have I1 : Inv X pins σ (upd H s.heap.objs.size (.tup [.int (i : Nat), x])) { s with heap := h'', toks := tk + 1 } :=
      I.turnedNew (ch := [e, it]) (fun b ob hb q => (sb.2 b (fun z => hb (by simp [z]))).trans (hk b ob (fun z => hb (by simp [z])) (fun z => hb (by simp [z])) q)) hf (Nat.le_refl _) new
    refine ⟨.ref s.heap.objs.size, _, I1, rfl, ⟨_, x, rfl, I.hok.fresh (Nat.le_refl _), rfl, fun ys hy => by rw [I.tuple_inj hy hq]; exact hx⟩, ⟨⟨y, ?_⟩, hst.1.at fun o q => (sb.2 it (Ne.symm hne)).trans q, hne⟩, fun b hb => ?_⟩
    · have e1 : ((i + 1 : Nat) : Int) = (i : Int) + 1 := by omega
      rw [e1]; exact he'
    · have hb' : b < s.heap.objs.size := by
        have e' : b = e ∨ b = it := by simpa using hb
        rcases e' with z | z
        · rw [z]; exact hel
        · rw [z]; exact hil
      rw [upd_ne (Nat.ne_of_lt hb')]
      exact (hf b hb).1
  done := by
    intro X hP hw hK hc i pins s σ H E I hf st hg
    subst hP hw hK
    obtain ⟨⟨old, he⟩, hit, hne⟩ := st
    obtain ⟨xs, hq, hx⟩ := hg
    obtain ⟨its, rv, p, hz⟩ := I.tuple hq
    obtain ⟨f0, f1, f2, f3, f4, f5⟩ := hf it (by simp)
    have hl := rv.length
    have hta : a ≠ it := by
      rintro rfl
      obtain ⟨o1, q1, q2, _⟩ := hit
      obtain ⟨o2, q3, q4, _⟩ := p
      rw [q1] at q3; cases q3
      rw [q2] at q4; simp at q4
    have D := Draws.tuple (prog := X.prog) (w := X.w) (show X.A.in1.handled = none from I.ok.hd hc) it a hta its.toArray
    have hit' : s.heap.IsTupleIter it a its.toArray.size := by
      have z : its.toArray.size = i := by simp; omega
      rw [z]; exact hit
    exact wpAny_pyNext_enum_endD D he ⟨hit', p⟩ fun h' eb => ⟨rfl, I.turned (t' := s.toks) (fun b o hb q => eb b o hb q) f0 f1 f3 f4 f5⟩
  self := fun A i s Q E st h => let ⟨⟨_, he⟩, _⟩ := st; wpAny_pyIter_enum he h
def iEnumT (K : PySem.W.Frag) (ta : TA) : TI := fun σ H R => ta σ H fun vs H1 => ∃ a xs, vs = [.ref a] ∧ SqT K H1 a xs ∧ R (IteT K a) H1
theorem pi_enumT {X : Cx} {e : Expr} {ta : TA} {p pos tpos : Pos} {elts : List Expr} {kk : Nat} (hg : Gl X "enumerate") (hm : X.mg "enumerate" = none) (ha : PA X [e] ta) (hs : starEach [e] X.env = [(false, eval e X.env)] := by rfl) :
    PI X (.Tuple elts kk tpos) (.Call (.Name "enumerate" p) [e] [] pos) (iEnumT X.K ta) := by
  refine ⟨fun pins s σ H R I h => ?_⟩
  refine Call_ (ld_blt I hg hm boot_enumerate (PyProof.Rows.callWith_type1 (thn (ha.run pos pins s σ H _ I h) fun us s1 ⟨vs, H1, I1, r1, q1⟩ => ?_) hs rfl))
  obtain ⟨a, xs, ex, hq, q⟩ := q1
  subst ex
  cases r1 with
  | cons r rr =>
    cases rr
    cases r
    obtain ⟨its, rv, p', hz⟩ := I1.tuple hq
    refine YR.call_enumerate_tuple (show s1.heap.IsTuple a its.toArray from p') fun h' he hit hsz hk => wpAny_pyIter_enum he ?_
    have I2 : Inv X pins σ H1 { s1 with heap := h' } := I1.kept (t' := s1.toks) hk
    refine ⟨s1.heap.objs.size + 1, [s1.heap.objs.size + 1, s1.heap.objs.size], _, _, H1, rfl, I2, turn_enumT a (s1.heap.objs.size + 1) s1.heap.objs.size, ⟨⟨.none, he⟩, hit, Nat.succ_ne_self _⟩, fun b hb => ?_, q⟩
    have e' : b = s1.heap.objs.size + 1 ∨ b = s1.heap.objs.size := by simpa using hb
    have hle : s1.heap.objs.size ≤ b := by
      rcases e' with z | z
      · rw [z]; exact Nat.le_add_right _ _
      · rw [z]; exact Nat.le_refl _
    exact I1.fpOk hle (I1.hok.fresh hle)
theorem for_enumT {K : PySem.W.Frag} {a : Addr} {xs : List V} {g : TG} {tb : TS} {D : Ends} {σ : St} {H : Hp} (Pv : Nat → St → Hp → Prop) (h0 : Pv 0 σ H) (hl : ∀ i σ H, i ≤ xs.length → Pv i σ H → SqT K H a xs)
    (hs : ∀ i x T σ H, xs[i]? = some x → Pv i σ H → H T = none → g (.ref T) σ (upd H T (.tup [.int (i : Nat), x])) fun σ2 H2 => tb { D with nx := Pv (i + 1), ct := Pv (i + 1), bk := D.nx } σ2 H2) (hd : ∀ σ H, Pv xs.length σ H → D.nx σ H) :
    ∃ W : Nat → Nat → St → Hp → Prop, (∃ m, W 0 m σ H) ∧ ∀ i m σ H, W i m σ H →
      ((IteT K a).stop i H ∧ D.nx σ H) ∨ ((IteT K a).go i H ∧ ∃ N : St → Hp → Prop, (∀ σ' H', N σ' H' → ∃ m', m' < m ∧ W (i + 1) m' σ' H') ∧ ∀ x H', (IteT K a).yld i H x H' → g x σ H' fun σ2 H2 => tb { D with nx := N, ct := N, bk := D.nx } σ2 H2) := by
  refine ⟨fun i m σ H => m = xs.length - i ∧ i ≤ xs.length ∧ Pv i σ H, ⟨xs.length, by simp, Nat.zero_le _, h0⟩, ?_⟩
  rintro i m σ H ⟨rfl, hi, p⟩
  have q := hl i σ H hi p
  by_cases hlt : i < xs.length
  · refine .inr ⟨⟨xs, xs[i], q, by simp [hlt]⟩, Pv (i + 1), fun σ' H' p' => ⟨xs.length - (i + 1), by omega, rfl, hlt, p'⟩, fun x H' y => ?_⟩
    obtain ⟨T, x', rfl, hT, rfl, hx⟩ := y
    exact hs i x' T σ H (hx xs q) p hT
  · have e : i = xs.length := by omega
    subst e
    exact .inl ⟨⟨xs, q, rfl⟩, hd σ H p⟩
/-! ### len(o), o[i], x in o by the class's own defs -/
section
variable {X : Cx} {CX : CXT} {k : Nat} {f C : Addr} {fd : FuncData} {ps : List Str} {sp : Sp} {E : XK}
theorem run_in1 {pins : List (Addr × Obj)} {σ : St} {H : Hp} {s : Shared} {Q : VK} {us : List Value} {vs : List V} (F : FnOk X.prog X.w X.K X.mg X.base CX k f fd ps sp) (hr : Room (k + 1) X.A) (hb : Binds X.K fd ps []) (hx : Passes CX X E)
    (I : Inv X pins σ H s) (r : Vals vs us) (h : sp vs H Q E) : wpAny (model X.prog X.w) X.A.in1 (call (.ref f) us) (EP X pins σ Q) X.xe s := by
  have hl : us.length = ps.length := by rw [← r.length]; exact F.len _ _ _ _ h
  refine wpAny_call (codeAny_mono (F.run X.A.in1 X.stack s H ⟨us, []⟩ us vs Q E hr.in1 I.env0.in1 (by have q := hb s us I.kIn (by simpa using hl); simpa using q) r h) fun r s' hq => ?_)
  cases r with
  | error e => exact hx pins σ H s e s' I hq
  | ok fl =>
    cases fl with
    | ret u => exact I.after hq
    | next => exact False.elim hq
    | brk => exact False.elim hq
    | cont => exact False.elim hq
theorem ins_at {pins : List (Addr × Obj)} {σ : St} {H : Hp} {s : Shared} {a dx : Addr} {fs : List (Str × V)} (I : Inv X pins σ H s) (e : H a = some (.ins C dx fs)) : ∃ od, PySem.W.InstAt s.heap a (PySem.W.instObj C dx) C (some od) := by
  obtain ⟨mA, O, _⟩ := ins_get I.hok e
  obtain ⟨od, J, _⟩ := O.look
  exact ⟨od, J⟩
/-- what a class says of one of its special defs -/
structure Spc (K : PySem.W.Frag) (C : Addr) (m : Str) (f : Addr) : Prop where
  at_ : PySem.W.findIn K (.ref C) m = some (some (.ref f))
  fn : PySem.W.isFn K (.ref f) = true
def rLenO (C : Addr) (sp : Sp) (E : XK) : List V → Hp → VK → Prop := fun xs H Q => ∃ a dx fs, xs = [.ref a] ∧ H a = some (.ins C dx fs) ∧ sp [.ref a] H (fun v H' => ∃ n : Int, v = .int n ∧ 0 ≤ n ∧ n < 2 ^ 63 ∧ Q (.int n) H') E
theorem call_lenO (hs : Spc X.K C "__len__" f) (F : FnOk X.prog X.w X.K X.mg X.base CX k f fd ps sp) (hr : Room (k + 1) X.A) (hb : Binds X.K fd ps []) (hx : Passes CX X E) : CallR X (.builtin "len") (rLenO C sp E) := by
  intro pins s σ H xs us Q I r h
  obtain ⟨a, dx, fs, rfl, e, h⟩ := h
  obtain ⟨u, rfl, ru⟩ := vals1 r
  cases ru
  obtain ⟨od, J⟩ := ins_at I e
  obtain ⟨m, F0⟩ := I.fr
  refine PySem.W.len_K F0 I.ok.mod.kin J hs.at_ hs.fn (wpAny_mono (run_in1 F hr hb hx I (vs := [.ref a]) (.cons rfl .nil) h) (fun v s' q => ?_) fun _ _ z => z)
  obtain ⟨v', H', I', rv, n, rfl, h0, h1, q⟩ := q
  obtain ⟨t, rfl⟩ := rv
  exact ⟨⟨h0, h1⟩, .int n, H', I'.tok _, ⟨_, rfl⟩, q⟩
theorem op_inO (hs : Spc X.K C "__contains__" f) (F : FnOk X.prog X.w X.K X.mg X.base CX k f fd ps sp) (hr : Room k X.A) (hb : Binds X.K fd ps []) (hx : Passes CX X E) :
    OpR X (compareOp .In) (fun x y H Q => ∃ a dx fs, y = .ref a ∧ H a = some (.ins C dx fs) ∧ sp [.ref a, x] H (fun v H' => ∃ b, v = .bl b ∧ Q (.bl b) H') E) := by
  intro pins s σ H x y v u Q I rx ry h
  obtain ⟨a, dx, fs, rfl, e, h⟩ := h
  cases ry
  obtain ⟨od, J⟩ := ins_at I e
  obtain ⟨m, F0⟩ := I.fr
  refine PySem.W.in_K F0 I.ok.mod.kin J hs.at_ hs.fn (wpAny_mono (run_fn F hr hb .nil hx I (vs := [.ref a, x]) (us := [.ref a, v]) (.cons rfl (.cons rx .nil)) h) (fun v s' q => ?_) fun _ _ z => z)
  obtain ⟨v', H', I', rv, b, rfl, q⟩ := q
  cases rv
  exact wpAny_truthy_bool ⟨.bl b, H', I', rfl, q⟩
def rIxO (C : Addr) (sp : Sp) (E : XK) : R2 := fun x y H Q => ∃ a dx fs, x = .ref a ∧ H a = some (.ins C dx fs) ∧ sp [.ref a, y] H Q E
theorem pe_ixO {a b : Expr} {ta tb : TE} {pos : Pos} (hs : Spc X.K C "__getitem__" f) (hf : PySem.W.fnIn X.K f = true) (F : FnOk X.prog X.w X.K X.mg X.base CX k f fd ps sp) (hr : Room (k + 1) X.A) (hb : Binds X.K fd ps []) (hx : Passes CX X E)
    (ha : PE X a ta) (hb' : PE X b tb) (hsl : ∀ o i, subscripted b true o i = runValue (.builtin "lifetime.subscript" ⟨[o, i], []⟩)) : PE X (.Subscript a b pos) (tOp (rIxO C sp E) ta tb) := by
  refine ⟨fun pins s σ H Q I h => ?_⟩
  refine Subscript_ (binT ha hb' I h fun v u s2 x y H2 I2 rx ry q => ?_)
  obtain ⟨o, dx, fs, rfl, e, h⟩ := q
  cases rx
  obtain ⟨od, J⟩ := ins_at I2 e
  obtain ⟨m, F0⟩ := I2.fr
  exact PySem.W.sub_K F0 I2.ok.mod.kin J hs.at_ hf hs.fn (run_in1 F hr hb hx I2 (vs := [.ref o, y]) (us := [.ref o, u]) (.cons rfl (.cons ry .nil)) h) (hsl _ _)
/-- the program's own def stands there -/
theorem Fun.fnIn {K : PySem.W.Frag} {x qual : Str} {st : Stmt} {f : Addr} {fd : FuncData} (F : Fun K x qual st f fd) : PySem.W.fnIn K f = true := by
  obtain ⟨oc, od, kV, doc, pm, an, cdv, ct, osl, rfl, lk, hcd⟩ := F.ex
  unfold PySem.W.fnIn
  rw [lk] <;> rfl
end
end L2

namespace L2
open PySem PySem.Spec PyProof.Rows
theorem hu65 {k : Nat} {A : Around} (hr : Room k A) : A.units + 65 < cLine := by have := hr.un; omega
structure InsI (K : PySem.W.Frag) (C : Addr) : Prop where
  cl : Cls K C
  ha : PySem.W.findIn K (.ref C) "__class__" = some (some (.builtin "object.__class__"))
  hn : PySem.W.specialIn K (.builtin "object.__class__") "__get__" = some (some (.builtin "getset_descriptor.__get__"))
  htk : PySem.W.takesIn K (.builtin "object.__class__") = some true
  hm : PySem.W.mroIn K C (.type "object") = some true
theorem kit_self {K : PySem.W.Frag} {C : Addr} : PySem.W.kitOne K (.ref C) (.ref C) = some true := by
  unfold PySem.W.kitOne
  rw [if_pos (by simp)]
theorem InsI.ty {K : PySem.W.Frag} {H : Hp} {a C dx : Addr} {fs : List (Str × V)} (i : InsI K C) (e : H a = some (.ins C dx fs)) : TyX K H (.ref a) (.ref C) := .base (.ins e i.cl i.ha i.hn i.htk i.hm)
/-! ### heaps that have grown; one list changed -/
section
variable {K : PySem.W.Frag} {H H' H1 H2 : Hp} {a p : Addr} {o u : HO} {xs ys : List V} {v : V} {d : PyData} {ds : List PyData}
theorem Same.new (h : H p = none) : Same H (upd H p o) := fun b w e => by rw [upd_ne (ne_of_none e h)]; exact e
theorem Same.add (s : Same H H1) (h : H1 p = none) : Same H (upd H1 p o) := s.trans (Same.new h)
theorem Same.mut (s : Same H H1) (h : H p = none) : Same H (upd H1 p o) := fun b w e => by rw [upd_ne (ne_of_none e h)]; exact s b w e
theorem Same.rd (s : Same H H') (h : Rd H a u) : Rd H' a u := by
  rcases h with h | ⟨o, h⟩
  · exact .inl (s _ _ h)
  · exact .inr ⟨o, s _ _ h⟩
theorem Same.sqT (s : Same H H') (h : SqT K H a xs) : SqT K H' a xs := by
  rcases h with h | h
  · exact .inl (s.rd h)
  · exact .inr h
mutual
theorem Same.dp (s : Same H H') : ∀ {d : PyData} {v : V}, Dp K H v d → Dp K H' v d
  | _, _, .non => .non
  | _, _, .bl b => .bl b
  | _, _, .int i => .int i
  | _, _, .str x => .str x
  | _, _, .lst h1 h2 => .lst (s.seq h1) (Same.dpAll s h2)
  | _, _, .tup h1 h2 => .tup (s.sqT h1) (Same.dpAll s h2)
theorem Same.dpAll (s : Same H H') : ∀ {ds : List PyData} {vs : List V}, DpAll K H vs ds → DpAll K H' vs ds
  | _, _, .nil => .nil
  | _, _, .cons h1 h2 => .cons (Same.dp s h1) (Same.dpAll s h2)
end
/-! no lists within -/
mutual
def imm : PyData → Bool
  | .tuple xs => immAll xs
  | .list _ => false
  | .dict _ => false
  | _ => true
def immAll : List PyData → Bool
  | [] => true
  | d :: ds => imm d && immAll ds
end
/-- the tuples stand -/
def Tups (H H' : Hp) : Prop := (∀ a xs, H a = some (.tup xs) → H' a = some (.tup xs)) ∧ ∀ a o xs, H a = some (.frz o (.tup xs)) → H' a = some (.frz o (.tup xs))
theorem Tups.refl (H : Hp) : Tups H H := ⟨fun _ _ h => h, fun _ _ _ h => h⟩
theorem Tups.trans (a : Tups H H1) (b : Tups H1 H2) : Tups H H2 := ⟨fun x y h => b.1 x y (a.1 x y h), fun x y z h => b.2 x y z (a.2 x y z h)⟩
theorem Same.tups (s : Same H H') : Tups H H' := ⟨fun a xs h => s _ _ h, fun a o xs h => s _ _ h⟩
theorem Tups.mut (h : Mut (H p)) : Tups H (upd H p o) := by
  refine ⟨fun b xs e => ?_, fun b u xs e => ?_⟩
  · rw [upd_ne]
    · exact e
    · rintro rfl; rw [e] at h; exact h
  · rw [upd_ne]
    · exact e
    · rintro rfl; rw [e] at h; exact h
theorem Tups.sqT (s : Tups H H') (h : SqT K H a xs) : SqT K H' a xs := by
  rcases h with (h | ⟨o, h⟩) | h
  · exact .inl (.inl (s.1 _ _ h))
  · exact .inl (.inr ⟨o, s.2 _ _ _ h⟩)
  · exact .inr h
mutual
theorem Tups.dp (s : Tups H H') : ∀ {d : PyData} {v : V}, imm d = true → Dp K H v d → Dp K H' v d
  | _, _, _, .non => .non
  | _, _, _, .bl b => .bl b
  | _, _, _, .int i => .int i
  | _, _, _, .str x => .str x
  | _, _, q, .lst h1 h2 => by simp [imm] at q
  | _, _, q, .tup h1 h2 => .tup (s.sqT h1) (Tups.dpAll s (by simpa [imm] using q) h2)
theorem Tups.dpAll (s : Tups H H') : ∀ {ds : List PyData} {vs : List V}, immAll ds = true → DpAll K H vs ds → DpAll K H' vs ds
  | _, _, _, .nil => .nil
  | _, _, q, .cons h1 h2 => .cons (Tups.dp s (by simp only [immAll, Bool.and_eq_true] at q; exact q.1) h1) (Tups.dpAll s (by simp only [immAll, Bool.and_eq_true] at q; exact q.2) h2)
end
/-- all but p stands as it stood, and the tuples -/
structure But (p : Addr) (H H' : Hp) : Prop where
  keep : ∀ b o, H b = some o → b ≠ p → H' b = some o
  tups : Tups H H'
theorem But.refl (p : Addr) (H : Hp) : But p H H := ⟨fun _ _ h _ => h, Tups.refl H⟩
theorem But.trans (a : But p H H1) (b : But p H1 H2) : But p H H2 := ⟨fun x y h n => b.keep x y (a.keep x y h n) n, a.tups.trans b.tups⟩
theorem Same.but (s : Same H H') : But p H H' := ⟨fun b o h _ => s b o h, s.tups⟩
theorem But.mut (h : Mut (H p)) : But p H (upd H p o) := ⟨fun b u e n => by rw [upd_ne n]; exact e, Tups.mut h⟩
theorem But.new {f : Addr} (b : But p H H1) (h : H f = none) (hm : H1 f = none ∨ Mut (H1 f)) : But p H (upd H1 f o) :=
  ⟨fun c u e n => by rw [upd_ne (ne_of_none e h)]; exact b.keep c u e n, b.tups.trans (hm.elim (fun h => (Same.new h).tups) Tups.mut)⟩
theorem But.free (b : But p H H1) (hp : p ≠ a) (h : H1 a = none) : H a = none := by
  cases e : H a with
  | none => rfl
  | some o => rw [b.keep a o e (Ne.symm hp)] at h; cases h
theorem But.same (s : Same H H1) (b : But p H1 H2) (h : H p = none) : Same H H2 := fun a o e => b.keep a o (s a o e) (ne_of_none e h)
theorem But.dp (b : But p H H') (hi : imm d = true) (h : Dp K H v d) : Dp K H' v d := b.tups.dp hi h
theorem But.dpAll {vs : List V} (b : But p H H') (hi : immAll ds = true) (h : DpAll K H vs ds) : DpAll K H' vs ds := b.tups.dpAll hi h
/-! ### data -/
theorem Dp.int_inv {i : Int} (h : Dp K H v (.int i)) : v = .int i := by cases h; rfl
theorem Dp.str_inv {i : Str} (h : Dp K H v (.str i)) : v = .str i := by cases h; rfl
theorem Dp.bl_inv {i : Bool} (h : Dp K H v (.bool i)) : v = .bl i := by cases h; rfl
theorem Dp.non_inv (h : Dp K H v .none) : v = .non := by cases h; rfl
theorem Dp.tup_inv (h : Dp K H v (.tuple ds)) : ∃ a xs, v = .ref a ∧ SqT K H a xs ∧ DpAll K H xs ds := by
  cases h with
  | tup h1 h2 => exact ⟨_, _, rfl, h1, h2⟩
theorem Dp.lst_inv (h : Dp K H v (.list ds)) : ∃ a xs, v = .ref a ∧ SqL K H a xs ∧ DpAll K H xs ds := by
  cases h with
  | lst h1 h2 => exact ⟨_, _, rfl, h1, h2⟩
theorem DpAll.length : ∀ {xs : List V} {ds : List PyData}, DpAll K H xs ds → xs.length = ds.length
  | _, _, .nil => rfl
  | _, _, .cons _ h => by rw [List.length_cons, List.length_cons, DpAll.length h]
theorem DpAll.get : ∀ {xs : List V} {ds : List PyData} {i : Nat} {d : PyData}, DpAll K H xs ds → ds[i]? = some d → ∃ v, xs[i]? = some v ∧ Dp K H v d
  | _, _, _, _, .nil, e => by simp at e
  | _, _, 0, _, .cons h _, e => by simp at e; subst e; exact ⟨_, rfl, h⟩
  | _, _, i + 1, d, .cons _ t, e => by
    obtain ⟨v, h1, h2⟩ := DpAll.get (i := i) (d := d) t (by simpa using e)
    exact ⟨v, by simpa using h1, h2⟩
theorem DpAll.get' : ∀ {xs : List V} {ds : List PyData} {i : Nat} {v : V}, DpAll K H xs ds → xs[i]? = some v → ∃ d, ds[i]? = some d ∧ Dp K H v d
  | _, _, _, _, .nil, e => by simp at e
  | _, _, 0, _, .cons h _, e => by simp at e; subst e; exact ⟨_, rfl, h⟩
  | _, _, i + 1, v, .cons _ t, e => by
    obtain ⟨d, h1, h2⟩ := DpAll.get' (i := i) (v := v) t (by simpa using e)
    exact ⟨d, by simpa using h1, h2⟩
theorem DpAll.append : ∀ {xs ys : List V} {ds es : List PyData}, DpAll K H xs ds → DpAll K H ys es → DpAll K H (xs ++ ys) (ds ++ es)
  | _, _, _, _, .nil, h => h
  | _, _, _, _, .cons h t, h' => .cons h (DpAll.append t h')
theorem DpAll.take : ∀ {xs : List V} {ds : List PyData} (n : Nat), DpAll K H xs ds → DpAll K H (xs.take n) (ds.take n)
  | _, _, 0, _ => .nil
  | _, _, _ + 1, .nil => .nil
  | _, _, n + 1, .cons r t => .cons r (DpAll.take n t)
theorem DpAll.drop : ∀ {xs : List V} {ds : List PyData} (n : Nat), DpAll K H xs ds → DpAll K H (xs.drop n) (ds.drop n)
  | _, _, 0, r => r
  | _, _, _ + 1, .nil => .nil
  | _, _, n + 1, .cons _ t => DpAll.drop n t
theorem DpAll.one (h : Dp K H v d) : DpAll K H [v] [d] := .cons h .nil
theorem DpAll.inv1 (h : DpAll K H xs [d]) : ∃ v, xs = [v] ∧ Dp K H v d := by
  cases h with
  | cons h t => cases t; exact ⟨_, rfl, h⟩
theorem Dp.tupOf (h : H a = some (.tup xs)) (hd : DpAll K H xs ds) : Dp K H (.ref a) (.tuple ds) := .tup (SqT.of h) hd
theorem Dp.lstOf (h : H a = some (.lst xs)) (hd : DpAll K H xs ds) : Dp K H (.ref a) (.list ds) := .lst (SqL.of h) hd
/-! ### types of data -/
def tyD : PyData → String
  | .none => "NoneType"
  | .bool _ => "bool"
  | .int _ => "int"
  | .str _ => "str"
  | .list _ => "list"
  | .tuple _ => "tuple"
  | .dict _ => "dict"
theorem Dp.ty (h : Dp K H v d) : TyX K H v (.type (tyD d)) := by
  cases h with
  | non => exact .base .non
  | bl b => exact .base (.bl b)
  | int i => exact .base (.int i)
  | str x => exact .base (.str x)
  | lst h1 h2 =>
    rcases h1 with (h1 | ⟨o, h1⟩) | ⟨o, its, n, h1, h3, _⟩
    · exact .base (.lst h1)
    · exact .base (.frz h1)
    · exact .kList h1 h3
  | tup h1 h2 =>
    rcases h1 with (h1 | ⟨o, h1⟩) | ⟨o, its, n, h1, h3, _⟩
    · exact .base (.tup h1)
    · exact .fTuple h1
    · exact .kTuple h1 h3
/-- isinstance of a built-in type, by names -/
def isTy (t c : String) : Bool := t == c || (t == "bool" && c == "int")
theorem kit_tab : ∀ t ∈ ["NoneType", "bool", "int", "str", "list", "tuple", "dict"], ∀ c ∈ ["bool", "int", "str", "list", "tuple", "dict"], kitB t c = some (isTy t c) := by decide +kernel
theorem tyD_mem (d : PyData) : tyD d ∈ ["NoneType", "bool", "int", "str", "list", "tuple", "dict"] := by cases d <;> simp [tyD]
theorem kit_d (d : PyData) {c : String} (h : c ∈ ["bool", "int", "str", "list", "tuple", "dict"]) : PySem.W.kitOne K (.type (tyD d)) (.type c) = some (isTy (tyD d) c) := kit_ty (kit_tab _ (tyD_mem d) _ h)
theorem kit_t {t c : String} (ht : t ∈ ["NoneType", "bool", "int", "str", "list", "tuple", "dict"]) (h : c ∈ ["bool", "int", "str", "list", "tuple", "dict"]) : PySem.W.kitOne K (.type t) (.type c) = some (isTy t c) := kit_ty (kit_tab _ ht _ h)
end
section
variable {K : PySem.W.Frag} {H : Hp} {v : V}
theorem TyX.int_inv (h : TyX K H v (.type "int")) : ∃ i, v = .int i := by
  generalize e : Value.type "int" = t at h
  cases h with
  | base h => cases h <;> first | exact ⟨_, rfl⟩ | (simp at e)
  | _ => simp at e
end
/-! ### isinstance of data -/
section
variable {X : Cx}
/-- isinstance(x, T): T a built-in type's name; x a datum, or a thing of a known type -/
def rIsD (K : PySem.W.Frag) : List V → Hp → VK → Prop := fun xs H Q => ∃ (x : V) (t c : String), xs = [x, .ty c] ∧ TyX K H x (.type t) ∧ t ∈ ["NoneType", "bool", "int", "str", "list", "tuple", "dict"] ∧ c ∈ ["bool", "int", "str", "list", "tuple", "dict"] ∧ Q (.bl (isTy t c)) H
theorem call_isD : CallR X (.builtin "isinstance") (rIsD X.K) := by
  intro pins s σ H xs us Q I r h
  obtain ⟨x, t, c, rfl, ty, ht, hc, q⟩ := h
  exact call_isi pins s σ H _ us Q I r ⟨x, .ty c, .type t, .type c, isTy t c, rfl, .ty c, ty, kit_t ht hc, q⟩
end
section
variable {X : Cx}
def rIsTD (K : PySem.W.Frag) : List V → Hp → VK → Prop := fun xs H Q => ∃ (x : V) (tp : Addr) (cs : List String) (t : String), xs = [x, .ref tp] ∧ H tp = some (.tup (cs.map V.ty)) ∧ TyX K H x (.type t) ∧ t ∈ ["NoneType", "bool", "int", "str", "list", "tuple", "dict"] ∧
  (∀ c ∈ cs, c ∈ ["bool", "int", "str", "list", "tuple", "dict"]) ∧ Q (.bl (cs.any (isTy t))) H
theorem kitAny_t {K : PySem.W.Frag} {t : String} (ht : t ∈ ["NoneType", "bool", "int", "str", "list", "tuple", "dict"]) : ∀ {cs : List String}, (∀ c ∈ cs, c ∈ ["bool", "int", "str", "list", "tuple", "dict"]) → PySem.W.kitAny K (.type t) (cs.map Value.type) = some (cs.any (isTy t))
  | [], _ => rfl
  | c :: cs, h => by
    rw [List.map_cons, List.any_cons]
    refine kitAny_cons (kit_t ht (h c (by simp))) (fun e => ?_) fun e => by rw [e, Bool.true_or]
    rw [e, Bool.false_or]
    exact kitAny_t ht fun x hx => h x (List.mem_cons_of_mem c hx)
theorem clsv_map : ∀ cs : List String, Paired ClsV (cs.map V.ty) (cs.map Value.type)
  | [] => .nil
  | c :: cs => .cons (.ty c) (clsv_map cs)
theorem call_isTDK (K : PySem.W.Frag) (hK : X.K = K := by rfl) : CallR X (.builtin "isinstance") (rIsTD K) := by
  subst hK
  intro pins s σ H xs us Q I r h
  obtain ⟨x, tp, cs, t, rfl, hp, ty, ht, hc, q⟩ := h
  exact call_isiT pins s σ H _ us Q I r ⟨x, tp, _, .type t, _, _, rfl, hp, clsv_map cs, ty, kitAny_t ht hc, q⟩
end
/-! ### the rules with the written part named -/
section
variable {X : Cx} {a b e o : Expr} {ta tb te to : TE} {pos : Pos}
theorem ix_listK (K : PySem.W.Frag) (hK : X.K = K := by rfl) : IxR X (rIxL K) := by subst hK; exact ix_list
theorem ix_tupK (K : PySem.W.Frag) (hK : X.K = K := by rfl) : IxR X (rIxT K) := by subst hK; exact ix_tup
theorem ix_seqK (K : PySem.W.Frag) (hK : X.K = K := by rfl) : IxR X (rIx K) := by subst hK; exact ix_seq
theorem sl_listK (K : PySem.W.Frag) (hK : X.K = K := by rfl) : SlR X (rSlL K) := by subst hK; exact sl_list
theorem sl_tupK (K : PySem.W.Frag) (hK : X.K = K := by rfl) : SlR X (rSlA K) := by subst hK; exact sl_tupA
theorem op_catK (K : PySem.W.Frag) (hK : X.K = K := by rfl) : OpR X (binaryOp .Add) (rCatA K) := by subst hK; exact op_catA
theorem op_eqDK (K : PySem.W.Frag) (hu : X.A.units + 65 < cLine) (hK : X.K = K := by rfl) : OpR X (compareOp .Eq) (rEqD K) := by subst hK; exact op_eqD (by omega)
theorem op_neDK (K : PySem.W.Frag) (hu : X.A.units + 65 < cLine) (hK : X.K = K := by rfl) : OpR X (compareOp .NotEq) (rNeD K) := by subst hK; exact op_neD (by omega)
theorem op_inTDK (K : PySem.W.Frag) (hu : X.A.units + 65 < cLine) (hK : X.K = K := by rfl) : OpR X (compareOp .In) (rInTD K) := by subst hK; exact op_inTD hu
theorem op_notInTDK (K : PySem.W.Frag) (hu : X.A.units + 65 < cLine) (hK : X.K = K := by rfl) : OpR X (compareOp .NotIn) (rNotInTD K) := by subst hK; exact op_notInTD hu
theorem op_inDK (K : PySem.W.Frag) (hu : X.A.units + 65 < cLine) (hK : X.K = K := by rfl) : OpR X (compareOp .In) (rInD K) := by subst hK; exact op_inD hu
theorem op_notInDK (K : PySem.W.Frag) (hu : X.A.units + 65 < cLine) (hK : X.K = K := by rfl) : OpR X (compareOp .NotIn) (rNotInD K) := by subst hK; exact op_notInD hu
theorem op_in_seqK (K : PySem.W.Frag) (hK : X.K = K := by rfl) : OpR X (compareOp .In) (rIn K false) := by subst hK; exact op_in_seq
theorem op_notIn_seqK (K : PySem.W.Frag) (hK : X.K = K := by rfl) : OpR X (compareOp .NotIn) (rIn K true) := by subst hK; exact op_notIn_seq
def rLen (K : PySem.W.Frag) : List V → Hp → VK → Prop := fun xs H Q => ∃ x n, xs = [x] ∧ LenV K x H n ∧ Q (.int n) H
theorem call_lenK (K : PySem.W.Frag) (hK : X.K = K := by rfl) : CallR X (.builtin "len") (rLen K) := by subst hK; exact call_len
theorem call_isDK (K : PySem.W.Frag) (hK : X.K = K := by rfl) : CallR X (.builtin "isinstance") (rIsD K) := by subst hK; exact call_isD
theorem call_isiK1 (K : PySem.W.Frag) (hK : X.K = K := by rfl) : CallR X (.builtin "isinstance") (rIsi K) := by subst hK; exact call_isi
theorem call_isiTK (K : PySem.W.Frag) (hK : X.K = K := by rfl) : CallR X (.builtin "isinstance") (rIsiT K) := by subst hK; exact call_isiT
def rTupOf (K : PySem.W.Frag) : List V → Hp → VK → Prop := fun xs H Q => ∃ p ys, xs = [.ref p] ∧ ((SqL K H p ys ∧ ∀ l, H l = none → Q (.ref l) (upd H l (.tup ys))) ∨ (SqT K H p ys ∧ Q (.ref p) H))
theorem call_tupK (K : PySem.W.Frag) (hK : X.K = K := by rfl) : CallR X (.type "tuple") (rTupOf K) := by subst hK; exact call_tuple_of
def rLstOf (K : PySem.W.Frag) : List V → Hp → VK → Prop := fun xs H Q => ∃ p ys, xs = [.ref p] ∧ (SqL K H p ys ∨ SqT K H p ys) ∧ ∀ l, H l = none → Q (.ref l) (upd H l (.lst ys))
theorem call_lstK (K : PySem.W.Frag) (hK : X.K = K := by rfl) : CallR X (.type "list") (rLstOf K) := by subst hK; exact call_list_of
theorem cr_allK (K : PySem.W.Frag) (hc : X.calm = true) (hK : X.K = K := by rfl) : CallR X (.builtin "all") (rAll K) := by subst hK; exact cr_all hc
theorem cr_anyK (K : PySem.W.Frag) (hc : X.calm = true) (hK : X.K = K := by rfl) : CallR X (.builtin "any") (rAny K) := by subst hK; exact cr_any hc
theorem cr_sumK (K : PySem.W.Frag) (hc : X.calm = true) (hK : X.K = K := by rfl) : CallR X (.builtin "sum") (rSum K) := by subst hK; exact cr_sum hc
theorem pi_listK (K : PySem.W.Frag) {tg l : Expr} {tl : TE} (hl : PE X l tl) (hK : X.K = K := by rfl) : PI X tg l (iList K tl) := by subst hK; exact pi_list hl
theorem pi_tupK (K : PySem.W.Frag) {tg l : Expr} {tl : TE} (hl : PE X l tl) (hK : X.K = K := by rfl) : PI X tg l (iTup K tl) := by subst hK; exact pi_tup hl
theorem pg_tupK (K : PySem.W.Frag) {es : List Expr} {k : Nat} {t : TGs} {n : Nat} (hc : X.calm = true) (h : PGs X es t)
    (hn : (assignEach es X.env).length = n := by rfl) (hst : (assignEach es X.env).findIdx? (·.1) = none := by rfl) (hK : X.K = K := by rfl) : PG X (.Tuple es k pos) (gTup K n t) := by subst hK; exact pg_tup hc h hn hst
theorem pe_fldK (K : PySem.W.Frag) {f : Str} (he : PE X e ta) (hb : attributeBase e f X.env (eval e X.env) = eval e X.env) (hK : X.K = K := by rfl) : PE X (.Attribute e f pos) (tFld K ta f) := by subst hK; exact pe_fld he hb
theorem ps_fldK (K : PySem.W.Frag) {value : Expr} {tv : TE} {f : Str} {pos' : Pos} (ha : PE X o ta) (hv : PE X value tv) (hs : swapsWith value (some (.Attribute o f pos')) pos.line X.env = pure false) (hK : X.K = K := by rfl) : PS X (.Assign [.Attribute o f pos'] value pos) (sFld K ta tv f) := by
  subst hK; exact ps_fld ha hv hs
theorem pe_bmK (K : PySem.W.Frag) {es : List Expr} {t : TA} {name : Str} {apos cpos : Pos} {T id : String} {r : V → List V → Hp → VK → Prop} (pa : PlainAttrs T) (slot : Slot T name id) (hty : typeOf (.builtin id) = pure (.type "method_descriptor")) (hm : MtR X id r) (ho : PE X o to) (ha : PA X (e :: es) t)
    (hK : X.K = K := by rfl) (h : PE X o to → PA X (e :: es) t → PE X (.Call (.Attribute o name apos) (e :: es) [] cpos) (tBM X.K T r to t) := by intro h1 h2; exact pe_bm (by assumption) (by assumption) (by assumption) (by assumption) h1 h2) : PE X (.Call (.Attribute o name apos) (e :: es) [] cpos) (tBM K T r to t) := by
  subst hK; exact h ho ha
end
end L2

namespace L2
open PySem PySem.Spec PyProof.Rows
/-! ### what a reading evaluates to, as data -/
theorem line_of {n : Nat} (h : n ≤ 100000) : n ≤ sizeLine := Nat.le_trans h (by decide)
theorem line_lt {n : Nat} (h : n < 100000) : n < sizeLine := Nat.lt_of_lt_of_le h (by decide)
def Gv (K : PySem.W.Frag) (te : TE) (σ : St) (H : Hp) (d : PyData) : Prop := ∀ H1, Same H H1 → ∀ Q : VK, (∀ v H2, Same H1 H2 → Dp K H2 v d → Q v H2) → te σ H1 Q
def Gs (K : PySem.W.Frag) (ta : TA) (σ : St) (H : Hp) (ds : List PyData) : Prop := ∀ H1, Same H H1 → ∀ Q : List V → Hp → Prop, (∀ vs H2, Same H1 H2 → DpAll K H2 vs ds → Q vs H2) → ta σ H1 Q
/-- a list of its own: new -/
def Gl1 (K : PySem.W.Frag) (te : TE) (σ : St) (H : Hp) (ds : List PyData) : Prop := ∀ H1, Same H H1 → ∀ Q : VK, (∀ p xs H2, H1 p = none → Same H1 H2 → H2 p = some (.lst xs) → DpAll K H2 xs ds → Q (.ref p) H2) → te σ H1 Q
/-- a test -/
def Gb (tt : TT) (σ : St) (H : Hp) (b : Bool) : Prop := ∀ H1, Same H H1 → ∀ Q : Bool → Hp → Prop, (∀ H2, Same H1 H2 → Q b H2) → tt σ H1 Q
section
variable {K : PySem.W.Frag} {σ : St} {H H' : Hp} {ta tb te : TE} {tas : TA} {x y z v : V} {d d1 d2 : PyData} {ds : List PyData}
theorem Gv.mono (h : Gv K te σ H d) (s : Same H H') : Gv K te σ H' d := fun H1 s1 Q q => h H1 (s.trans s1) Q q
theorem Gs.mono (h : Gs K tas σ H ds) (s : Same H H') : Gs K tas σ H' ds := fun H1 s1 Q q => h H1 (s.trans s1) Q q
theorem gv_var {i : Nat} (h : σ[i]? = some (some v)) (hd : Dp K H v d) : Gv K (tVar i) σ H d := fun H1 s1 Q q => ⟨v, h, q v H1 (Same.refl H1) (s1.dp hd)⟩
theorem gv_varI {i : Nat} {n : Int} (h : σ[i]? = some (some (.int n))) : Gv K (tVar i) σ H (.int n) := gv_var h (.int n)
theorem gv_varS {i : Nat} {n : Str} (h : σ[i]? = some (some (.str n))) : Gv K (tVar i) σ H (.str n) := gv_var h (.str n)
theorem gv_varB {i : Nat} {n : Bool} (h : σ[i]? = some (some (.bl n))) : Gv K (tVar i) σ H (.bool n) := gv_var h (.bl n)
theorem gv_varN {i : Nat} (h : σ[i]? = some (some .non)) : Gv K (tVar i) σ H .none := gv_var h .non
theorem gv_c (hd : ∀ H, Dp K H v d) : Gv K (tC v) σ H d := fun H1 _ Q q => q v H1 (Same.refl H1) (hd H1)
theorem gv_int {i : Int} : Gv K (tC (.int i)) σ H (.int i) := gv_c fun _ => .int i
theorem gv_str {i : Str} : Gv K (tC (.str i)) σ H (.str i) := gv_c fun _ => .str i
theorem gv_bl {i : Bool} : Gv K (tC (.bl i)) σ H (.bool i) := gv_c fun _ => .bl i
theorem gv_non : Gv K (tC .non) σ H .none := gv_c fun _ => .non
theorem gs_nil : Gs K tNil σ H [] := fun H1 _ Q q => q [] H1 (Same.refl H1) .nil
theorem gs_cons (h1 : Gv K te σ H d) (h2 : Gs K tas σ H ds) : Gs K (tCons te tas) σ H (d :: ds) := fun H1 s1 Q q =>
  h1 H1 s1 _ fun v H2 s2 hv => h2 H2 (s1.trans s2) _ fun vs H3 s3 hvs => q (v :: vs) H3 (s2.trans s3) (.cons (s3.dp hv) hvs)
theorem gv_tup (h : Gs K tas σ H ds) (hl : ds.length ≤ 100000) : Gv K (tTup tas) σ H (.tuple ds) := fun H1 s1 Q q =>
  h H1 s1 _ fun vs H2 s2 hvs => ⟨line_of (by rw [hvs.length]; exact hl), fun p hp => q (.ref p) _ (s2.add hp) (.tupOf upd_same ((Same.new hp).dpAll hvs))⟩
theorem gv_lst (h : Gs K tas σ H ds) (hl : ds.length ≤ 100000) : Gv K (tLst tas) σ H (.list ds) := fun H1 s1 Q q =>
  h H1 s1 _ fun vs H2 s2 hvs => ⟨line_of (by rw [hvs.length]; exact hl), fun p hp => q (.ref p) _ (s2.add hp) (.lstOf upd_same ((Same.new hp).dpAll hvs))⟩
theorem gl_lst (h : Gs K tas σ H ds) (hl : ds.length ≤ 100000) : Gl1 K (tLst tas) σ H ds := fun H1 s1 Q q =>
  h H1 s1 _ fun vs H2 s2 hvs => ⟨line_of (by rw [hvs.length]; exact hl), fun p hp => q p vs _ (s2.free hp) (s2.add hp) upd_same ((Same.new hp).dpAll hvs)⟩
theorem Gl1.gv (h : Gl1 K te σ H ds) : Gv K te σ H (.list ds) := fun H1 s1 Q q => h H1 s1 Q fun p xs H2 hp s2 h2 hd => q (.ref p) H2 s2 (.lstOf h2 hd)
theorem gv_i0 {g : Int → Int → V} {i j : Int} (ha : Gv K ta σ H (.int i)) (hb : Gv K tb σ H (.int j)) (hg : ∀ H, Dp K H (g i j) d) : Gv K (tOp (rI0 g) ta tb) σ H d := fun H1 s1 Q q =>
  ha H1 s1 _ fun v H2 s2 hv => hb H2 (s1.trans s2) _ fun u H3 s3 hu => ⟨i, j, hv.int_inv, hu.int_inv, q _ H3 (s2.trans s3) (hg H3)⟩
theorem gv_i {C : Int → Int → Prop} {g : Int → Int → V} {i j : Int} (ha : Gv K ta σ H (.int i)) (hb : Gv K tb σ H (.int j)) (hc : C i j) (hg : ∀ H, Dp K H (g i j) d) : Gv K (tOp (rI C g) ta tb) σ H d := fun H1 s1 Q q =>
  ha H1 s1 _ fun v H2 s2 hv => hb H2 (s1.trans s2) _ fun u H3 s3 hu => ⟨i, j, hv.int_inv, hu.int_inv, hc, q _ H3 (s2.trans s3) (hg H3)⟩
theorem gv_neg {i : Int} (ha : Gv K ta σ H (.int i)) : Gv K (tUn (rU fun i => .int (-i)) ta) σ H (.int (-i)) := fun H1 s1 Q q =>
  ha H1 s1 _ fun v H2 s2 hv => ⟨i, hv.int_inv, q _ H2 s2 (.int _)⟩
theorem gv_ixL {i : Int} (ha : Gv K ta σ H (.list ds)) (hb : Gv K tb σ H (.int i)) (h : atI ds i = some d) : Gv K (tOp (rIxL K) ta tb) σ H d := fun H1 s1 Q q =>
  ha H1 s1 _ fun v H2 s2 hv => hb H2 (s1.trans s2) _ fun u H3 s3 hu => by
    obtain ⟨a, xs, rfl, hq, hx⟩ := (s3.dp hv).lst_inv
    have hl := hx.length
    unfold atI at h
    cases e : ixN ds.length i with
    | none => rw [e] at h; cases h
    | some j =>
      rw [e] at h
      obtain ⟨w, h1, h2⟩ := hx.get (i := j) h
      exact ⟨a, xs, i, w, rfl, hu.int_inv, hq, by unfold atI; rw [hl, e]; exact h1, q w H3 (s2.trans s3) h2⟩
theorem gv_ixT {i : Int} (ha : Gv K ta σ H (.tuple ds)) (hb : Gv K tb σ H (.int i)) (h : atI ds i = some d) : Gv K (tOp (rIxT K) ta tb) σ H d := fun H1 s1 Q q =>
  ha H1 s1 _ fun v H2 s2 hv => hb H2 (s1.trans s2) _ fun u H3 s3 hu => by
    obtain ⟨a, xs, rfl, hq, hx⟩ := (s3.dp hv).tup_inv
    have hl := hx.length
    unfold atI at h
    cases e : ixN ds.length i with
    | none => rw [e] at h; cases h
    | some j =>
      rw [e] at h
      obtain ⟨w, h1, h2⟩ := hx.get (i := j) h
      exact ⟨a, xs, i, w, rfl, hu.int_inv, hq, by unfold atI; rw [hl, e]; exact h1, q w H3 (s2.trans s3) h2⟩
/-- the value, and what follows -/
theorem Gv.go {Q : VK} (h : Gv K te σ H d) (q : ∀ v H2, Same H H2 → Dp K H2 v d → Q v H2) : te σ H Q := h H (Same.refl H) Q q
theorem Gl1.go {Q : VK} (h : Gl1 K te σ H ds) (q : ∀ p xs H2, H p = none → Same H H2 → H2 p = some (.lst xs) → DpAll K H2 xs ds → Q (.ref p) H2) : te σ H Q := h H (Same.refl H) Q q
theorem Gs.go {Q : List V → Hp → Prop} (h : Gs K tas σ H ds) (q : ∀ vs H2, Same H H2 → DpAll K H2 vs ds → Q vs H2) : tas σ H Q := h H (Same.refl H) Q q
end
/-- len of a list or a tuple -/
theorem Dp.seq {K : PySem.W.Frag} {H : Hp} {v : V} {ds : List PyData} {d : PyData} (h : Dp K H v d) (e : d = .list ds ∨ d = .tuple ds) : ∃ a xs, v = .ref a ∧ (d = .list ds ∧ SqL K H a xs ∨ d = .tuple ds ∧ SqT K H a xs) ∧ DpAll K H xs ds := by
  rcases e with rfl | rfl
  · obtain ⟨a, xs, rfl, h1, h2⟩ := h.lst_inv
    exact ⟨a, xs, rfl, .inl ⟨rfl, h1⟩, h2⟩
  · obtain ⟨a, xs, rfl, h1, h2⟩ := h.tup_inv
    exact ⟨a, xs, rfl, .inr ⟨rfl, h1⟩, h2⟩
theorem Dp.len {K : PySem.W.Frag} {H : Hp} {v : V} {ds : List PyData} {d : PyData} (h : Dp K H v d) (e : d = .list ds ∨ d = .tuple ds) : LenV K v H ds.length := by
  obtain ⟨a, xs, rfl, h1, h2⟩ := h.seq e
  rw [← h2.length]
  rcases h1 with ⟨_, h1⟩ | ⟨_, h1⟩
  · exact .inl ⟨xs, h1, rfl⟩
  · exact .inr ⟨xs, h1, rfl⟩
theorem Dp.ix {K : PySem.W.Frag} {H : Hp} {v : V} {ds : List PyData} {d e : PyData} {i : Nat} {Q : VK} (h : Dp K H v d) (hd : d = .list ds ∨ d = .tuple ds) (hi : ds[i]? = some e) (q : ∀ u, Dp K H u e → Q u H) : rIx K v (.int (i : Nat)) H Q := by
  obtain ⟨a, xs, rfl, h1, h2⟩ := h.seq hd
  obtain ⟨u, hu1, hu2⟩ := h2.get hi
  rcases h1 with ⟨_, h1⟩ | ⟨_, h1⟩
  · exact .inl ⟨a, xs, _, u, rfl, rfl, h1, atI_nat hu1, q u hu2⟩
  · exact .inr (.inl ⟨a, xs, _, u, rfl, rfl, h1, atI_nat hu1, q u hu2⟩)
/-- == of plain values, or of data -/
def rEqA (K : PySem.W.Frag) : R2 := fun x y H Q => rEq x y H Q ∨ rEqD K x y H Q
def rNeA (K : PySem.W.Frag) : R2 := fun x y H Q => rNe x y H Q ∨ rNeD K x y H Q
theorem op_eqAK {X : Cx} (K : PySem.W.Frag) (hu : X.A.units + 65 < cLine) (hK : X.K = K := by rfl) : OpR X (compareOp .Eq) (rEqA K) := op_eq.or (op_eqDK K hu hK)
theorem op_neAK {X : Cx} (K : PySem.W.Frag) (hu : X.A.units + 65 < cLine) (hK : X.K = K := by rfl) : OpR X (compareOp .NotEq) (rNeA K) := op_ne.or (op_neDK K hu hK)
end L2

namespace L2
open PySem PySem.Spec PyProof.Rows
/-! ### a + b by the class's own def -/
section
variable {X : Cx} {CX : CXT} {k : Nat} {f C : Addr} {fd : FuncData} {ps : List Str} {sp : Sp} {E : XK}
def rAddO (C : Addr) (sp : Sp) (E : XK) : R2 := fun x y H Q => ∃ a dx fs b dx' fs', x = .ref a ∧ y = .ref b ∧ H a = some (.ins C dx fs) ∧ H b = some (.ins C dx' fs') ∧ sp [.ref a, .ref b] H (fun v H' => (∃ c, v = .ref c) ∧ Q v H') E
theorem op_addO (hs : Spc X.K C "__add__" f) (hc : PySem.W.selfFirst X.K C = true) (F : FnOk X.prog X.w X.K X.mg X.base CX k f fd ps sp) (hr : Room k X.A) (hb : Binds X.K fd ps []) (hx : Passes CX X E) : OpR X (binaryOp .Add) (rAddO C sp E) := by
  intro pins s σ H x y v u Q I rx ry h
  obtain ⟨a, dx, fs, b, dx', fs', rfl, rfl, e, e', h⟩ := h
  cases rx
  cases ry
  obtain ⟨od, J⟩ := ins_at I e
  obtain ⟨od', J'⟩ := ins_at I e'
  obtain ⟨m, F0⟩ := I.fr
  refine PySem.W.binop_K F0 I.ok.mod.kin J J'.type hc hs.at_ hs.fn (wpAny_mono (run_fn F hr hb .nil hx I (vs := [.ref a, .ref b]) (us := [.ref a, .ref b]) (.cons rfl (.cons rfl .nil)) h) (fun v s' q => ?_) fun _ _ z => z)
  obtain ⟨v', H', I', rv, ⟨c, rfl⟩, q⟩ := q
  cases rv
  exact ⟨.ref c, H', I', rfl, q⟩
end
/-- a slice's part left out -/
theorem po_no {X : Cx} : PO X none (fun _ H Q => Q none H) := po_none
/-! ### tuples of data: t + u, t[:n], t[n:] -/
section
variable {K : PySem.W.Frag} {H : Hp} {Q : VK} {v u : V} {ds es : List PyData}
theorem catT_go (hv : Dp K H v (.tuple ds)) (hu : Dp K H u (.tuple es)) (hl : ds.length + es.length ≤ 100000) (q : ∀ w H', Same H H' → Dp K H' w (.tuple (ds ++ es)) → Q w H') : rCatA K v u H Q := by
  obtain ⟨a, xs, rfl, ha, hxs⟩ := hv.tup_inv
  obtain ⟨b, ys, rfl, hb, hys⟩ := hu.tup_inv
  have e1 := hxs.length
  have e2 := hys.length
  refine ⟨a, b, xs, ys, rfl, rfl, ha, hb, line_of (by omega), fun e => ?_, fun _ e => ?_, fun _ _ p hp => ?_⟩
  · subst e
    cases hxs
    exact q _ H (Same.refl H) hu
  · subst e
    cases hys
    rw [List.append_nil] at q
    exact q _ H (Same.refl H) hv
  · exact q _ _ (Same.new hp) (.tupOf upd_same (((Same.new hp).dpAll hxs).append ((Same.new hp).dpAll hys)))
theorem slT_go {lo hi : Option Int} {fs : List PyData} (hv : Dp K H v (.tuple ds)) (hf : (ds.drop (HT.sIx ds.length 0 lo)).take (HT.sIx ds.length ds.length hi - HT.sIx ds.length 0 lo) = fs) (q : ∀ w H', Same H H' → Dp K H' w (.tuple fs) → Q w H') : rSlA K v lo hi H Q := by
  obtain ⟨a, xs, rfl, ha, hxs⟩ := hv.tup_inv
  have e1 := hxs.length
  refine ⟨a, xs, rfl, ha, fun e => ?_, fun _ p hp => ?_⟩
  · have : fs = ds := by
      rw [← hf, ← e1, e.1, e.2]
      simp [e1]
    rw [this] at q
    exact q _ H (Same.refl H) hv
  · refine q _ _ (Same.new hp) (.tupOf upd_same ?_)
    rw [← hf]
    unfold cutV
    rw [e1]
    exact (Same.new hp).dpAll ((hxs.drop _).take _)
theorem slT_to {n : Nat} {z : Int} (hv : Dp K H v (.tuple ds)) (e : z = (n : Int)) (q : ∀ w H', Same H H' → Dp K H' w (.tuple (ds.take n)) → Q w H') : rSlA K v none (some z) H Q := by
  subst e
  refine slT_go hv ?_ q
  rw [HT.sIx_none, HT.sIx_nat, List.drop_zero, Nat.sub_zero]
  rcases Nat.le_total n ds.length with h | h
  · rw [Nat.min_eq_left h]
  · rw [Nat.min_eq_right h, List.take_length, List.take_of_length_le h]
theorem slT_from {n : Nat} {z : Int} (hv : Dp K H v (.tuple ds)) (e : z = (n : Int)) (q : ∀ w H', Same H H' → Dp K H' w (.tuple (ds.drop n)) → Q w H') : rSlA K v (some z) none H Q := by
  subst e
  refine slT_go hv ?_ q
  rw [HT.sIx_none, HT.sIx_nat]
  rcases Nat.le_total n ds.length with h | h
  · rw [Nat.min_eq_left h, List.take_of_length_le (by rw [List.length_drop]; exact Nat.le_refl _)]
  · rw [Nat.min_eq_right h, List.drop_of_length_le h, List.drop_length]; simp
end
/-! ### texts joined -/
def rJoin (K : PySem.W.Frag) : V → List V → Hp → VK → Prop := fun x xs H Q => ∃ a p, ∃ ys : List Str, x = .str a ∧ xs = [.ref p] ∧ (SqL K H p (ys.map V.str) ∨ SqT K H p (ys.map V.str)) ∧ (ys.map (·.length)).sum + ys.length * a.length ≤ 16777216 ∧ Q (.str (Txt.join a ys)) H
theorem pe_joinK {X : Cx} {o e : Expr} {to te : TE} (K : PySem.W.Frag) {apos pos : Pos} (ho : PE X o to) (he : PE X e te) (hK : X.K = K := by rfl) (hs : starEach [e] X.env = [(false, eval e X.env)] := by rfl) (hbase : attributeBase o "join" X.env (eval o X.env) = eval o X.env := by rfl) (hline : (apos.endLine == pos.line) = true := by rfl) :
    PE X (.Call (.Attribute o "join" apos) [e] [] pos) (tM1 (rJoin K) to te) := by subst hK; exact pe_join ho he hs hbase hline
end L2

/-! # The ledgers as plain data: what each deed and each step makes of them -/
namespace M
open PySem L2
structure OL where
  label : Int
  start : Int
  moves : Int
  tie : Option Int
  standing : Bool
structure NL where
  number : Int
  label : Int
  start : Int
  source : Option Int
  moves : Int
  tie : Option Int
  typed : List Str
structure Led where
  elder : List OL
  later : List NL
  ever : Int
  fresh : List Int
  ahead : List (Int × Int × Option Int)
def OL.closing (o : OL) : Int := o.start + o.moves
/-- the sources of the made lines -/
def srcs (ns : List NL) : List Int := ns.filterMap (·.source)
def nums (ns : List NL) : List Int := ns.map (·.number)
def owns (ns : List NL) : Nat := (ns.filter fun n => n.source.isNone).length
structure WF (L : Led) (B : Nat) : Prop where
  num : (nums L.later).Pairwise (· < ·)
  lo : ∀ n ∈ L.later, 1 ≤ n.number ∧ n.number ≤ L.ever
  ev : 0 ≤ L.ever
  src : ∀ s ∈ srcs L.later, 1 ≤ s ∧ s ≤ L.elder.length
  nd : (srcs L.later).Nodup
  sz : L.elder.length + owns L.later ≤ B
  ty : ∀ n ∈ L.later, n.typed.length ≤ B
theorem len_split : ∀ ns : List NL, ns.length = (srcs ns).length + owns ns
  | [] => rfl
  | n :: ns => by
    have h := len_split ns
    unfold srcs owns at h ⊢
    cases e : n.source with
    | none => rw [List.filterMap_cons, e, List.filter_cons_of_pos (by rw [e]; rfl), List.length_cons, List.length_cons]; simp only; omega
    | some s => rw [List.filterMap_cons, e, List.filter_cons_of_neg (by rw [e]; simp), List.length_cons, List.length_cons]; omega
/-- different numbers from 1 to m are m at most -/
theorem pigeon : ∀ (m : Nat) (l : List Int), l.Nodup → (∀ x ∈ l, 1 ≤ x ∧ x ≤ (m : Int)) → l.length ≤ m
  | 0, l, _, h => by
    cases l with
    | nil => simp
    | cons x r => have := h x (by simp); omega
  | m + 1, l, hn, h => by
    have h1 := pigeon m (l.filter (· ≠ ((m + 1 : Nat) : Int))) (hn.filter _) fun x hx => by
      have hx' := List.mem_filter.mp hx
      have a := h x hx'.1
      have b : x ≠ ((m + 1 : Nat) : Int) := by simpa using hx'.2
      omega
    have h2 : l.length ≤ (l.filter (· ≠ ((m + 1 : Nat) : Int))).length + 1 := by
      clear h1 h
      induction l with
      | nil => simp
      | cons x r ih =>
        have hr := (List.nodup_cons.mp hn)
        by_cases e : x = ((m + 1 : Nat) : Int)
        · have : r.filter (· ≠ ((m + 1 : Nat) : Int)) = r := List.filter_eq_self.mpr fun y hy => by
            have : y ≠ x := fun z => hr.1 (z ▸ hy)
            simp; omega
          rw [List.filter_cons_of_neg (by simp [e]), this]; simp
        · rw [List.filter_cons_of_pos (by simpa using e)]
          have := ih hr.2
          simp only [List.length_cons]; omega
    omega
theorem WF.later_len {L : Led} {B : Nat} (w : WF L B) : L.later.length ≤ B := by
  have h1 := len_split L.later
  have h2 := pigeon L.elder.length (srcs L.later) w.nd w.src
  have h3 := w.sz
  omega
theorem WF.mono {L : Led} {B B' : Nat} (w : WF L B) (h : B ≤ B') : WF L B' := ⟨w.num, w.lo, w.ev, w.src, w.nd, Nat.le_trans w.sz h, fun n hn => Nat.le_trans (w.ty n hn) h⟩
/-! ### the deeds' parts -/
def Led.init : Led := ⟨[], [], 0, [], []⟩
theorem WF.init : WF Led.init 0 := ⟨List.Pairwise.nil, fun n h => absurd h (List.not_mem_nil (a := n)), Int.le_refl 0, fun s h => absurd h (List.not_mem_nil (a := s)), List.Pairwise.nil, Nat.le_refl 0, fun n h => absurd h (List.not_mem_nil (a := n))⟩
def oldAt (L : Led) (s : Int) : Option OL := if 1 ≤ s ∧ s ≤ L.elder.length then L.elder[(s - 1).toNat]? else none
def addM (L : Led) (label amount : Int) : Led := { L with elder := L.elder ++ [⟨label, amount, 0, none, true⟩] }
def putM (L : Led) (label start : Int) (source : Option Int) : Led := { L with later := L.later ++ [⟨L.ever + 1, label, start, source, 0, none, []⟩], ever := L.ever + 1 }
def setOld (L : Led) (n : Int) (f : OL → OL) : Led := { L with elder := L.elder.modify (n - 1).toNat f }
def setNew (L : Led) (n : Int) (f : NL → NL) : Led := { L with later := L.later.map fun l => if l.number = n then f l else l }
/-- a deed -/
inductive Deed where
  | add (l a : Int)
  | label (n l : Int)
  | moves (n a : Int)
  | tie (n : Int) (m : Option Int)
  | fin (n : Int)
  | own (l : Int)
  | wlabel (n l : Int)
  | wmoves (n a : Int)
  | wtie (n : Int) (m : Option Int)
  | run
def inO (L : Led) (n : Int) : Prop := 1 ≤ n ∧ n ≤ (L.elder.length : Int)
def inN (L : Led) (n : Int) : Prop := n ∈ nums L.later
/-- the deed's lines are there -/
def okM (L : Led) : Deed → Prop
  | .add _ _ => True
  | .label n _ => inO L n
  | .moves n _ => inO L n
  | .tie n m => inO L n ∧ ∀ k, m = some k → inO L k
  | .fin n => inO L n
  | .own _ => True
  | .wlabel n _ => inN L n
  | .wmoves n _ => inN L n
  | .wtie n m => inN L n ∧ ∀ k, m = some k → inN L k
  | .run => True
/-- one turn of make: the i-th old line -/
def makeTurn (there : List Int) (all : Bool) (L : Led) (i : Nat) (o : OL) : Led :=
  if ((i : Int) + 1) ∉ there ∧ (o.standing = true ∨ all = true) then { putM L o.label o.closing (some ((i : Int) + 1)) with fresh := L.fresh ++ [L.ever + 1] } else L
def makeGo (there : List Int) (all : Bool) : Nat → List OL → Led → Led
  | _, [], L => L
  | i, o :: os, L => makeGo there all (i + 1) os (makeTurn there all L i o)
def makeM (all : Bool) (L : Led) : Led := makeGo (srcs L.later) all 0 L.elder L
def isGone (L : Led) (n : NL) : Bool := match n.source with
  | none => false
  | some s => match L.elder[(s - 1).toNat]? with
    | some o => !o.standing
    | none => false
def gone (L : Led) : List Int := (L.later.filter (isGone L)).map (·.number)
def untie (g : List Int) (n : NL) : NL := match n.tie with
  | none => n
  | some t => if t ∈ g then { n with tie := none } else n
def dropM (L : Led) : Led := { L with later := (L.later.filter fun n => decide (n.number ∉ gone L)).map (untie (gone L)) }
/-- the number of the made line of an old line -/
def madeNo (ns : List NL) (s : Int) : Option Int := (ns.find? fun n => n.source == some s).map (·.number)
def inScope (L : Led) (field scope : Str) (n : NL) : Bool := if scope = "new" then decide (n.number ∈ L.fresh) else scope == "all" || !decide (field ∈ n.typed)
def tieOf (ns : List NL) : Option Int → Option Int
  | none => none
  | some t => madeNo ns t
def follow1 (L : Led) (field scope : Str) (n : NL) : NL := match n.source with
  | none => n
  | some s => if inScope L field scope n then (match L.elder[(s - 1).toNat]? with
    | none => n
    | some o => if field = "start" then { n with start := o.closing } else if field = "label" then { n with label := o.label } else { n with tie := tieOf L.later o.tie }) else n
def followM (field scope : Str) (L : Led) : Led := { L with later := L.later.map (follow1 L field scope) }
def stepM (L : Led) (ws : List Str) : Led := match ws with
  | [a] => if a = "drop" then dropM L else L
  | a :: b :: _ => if a = "make" then makeM (b == "all") L else if a = "drop" then dropM L else followM a b L
  | [] => L
def runM (steps : List (List Str)) (L : Led) : Led :=
  steps.foldl stepM { L with ahead := L.later.map fun n => (n.number, n.label, n.tie), fresh := [] }
/-- a deed is played -/
def playM (steps : List (List Str)) (L : Led) : Deed → Led
  | .add l a => addM L l a
  | .label n l => setOld L n fun o => { o with label := l }
  | .moves n a => setOld L n fun o => { o with moves := a }
  | .tie n m => setOld L n fun o => { o with tie := m }
  | .fin n => setOld L n fun o => { o with standing := false }
  | .own l => putM L l 0 none
  | .wlabel n l => setNew L n fun o => { o with label := l, typed := o.typed ++ [("label" : Str)] }
  | .wmoves n a => setNew L n fun o => { o with moves := a }
  | .wtie n m => setNew L n fun o => { o with tie := m, typed := o.typed ++ [("tie" : Str)] }
  | .run => runM steps L
/-! ### what is wrong behind a run -/
def srcOf (ns : List NL) (s : Int) : Option NL := ns.find? fun n => n.source == some s
def isOwnM (f : Str) (n : NL) : Bool := n.source.isNone || decide (f ∈ n.typed)
def wishM (L : Led) : Option Int → Option Int
  | none => none
  | some t => match srcOf L.later t, L.elder[(t - 1).toNat]? with
    | some m, some o => if o.standing then some m.number else none
    | _, _ => none
def oldWrongsM (L : Led) (k : Int) (o : OL) : List Str := match srcOf L.later k with
  | none => if o.standing then ["missing"] else []
  | some m => if o.standing = false then ["stays"] else
    (if m.start ≠ o.closing then [("start" : Str)] else []) ++ ((if isOwnM "label" m = false ∧ m.label ≠ o.label then [("label" : Str)] else []) ++ (if isOwnM "tie" m = false ∧ m.tie ≠ wishM L o.tie then [("tie" : Str)] else []))
def typedWrongsM (L : Led) (n : NL) : List Str := match L.ahead.find? fun x => x.1 == n.number with
  | none => []
  | some x => (if isOwnM "label" n = true ∧ n.label ≠ x.2.1 then [("typed label" : Str)] else []) ++
    (if isOwnM "tie" n = true ∧ n.tie ≠ x.2.2 ∧ ¬ (∃ t, x.2.2 = some t ∧ t ∉ nums L.later) then [("typed tie" : Str)] else [])
/-- the words and the numbers of what is wrong -/
def wrongsM (L : Led) : List (Str × Int) :=
  (L.elder.mapIdx fun i o => (oldWrongsM L ((i : Int) + 1) o).map fun w => (w, (i : Int) + 1)).flatten ++ (L.later.map fun n => (typedWrongsM L n).map fun w => (w, n.number)).flatten
/-! ### histories -/
def playAll (steps : List (List Str)) (L : Led) (es : List Deed) : Led := es.foldl (playM steps) L
def OkAll (steps : List (List Str)) : Led → List Deed → Prop
  | _, [] => True
  | L, e :: es => okM L e ∧ OkAll steps (playM steps L e) es
def isRun : Deed → Bool
  | .run => true
  | _ => false
/-- the faults behind the runs, from the i-th deed on -/
def faultsGo (steps : List (List Str)) : Nat → Led → List Deed → List (Str × Int × Int)
  | _, _, [] => []
  | i, L, e :: es => (if isRun e then (wrongsM (playM steps L e)).map fun x => (x.1, (i : Int), x.2) else []) ++ faultsGo steps (i + 1) (playM steps L e) es
def faultsM (steps : List (List Str)) (es : List Deed) : List (Str × Int × Int) := faultsGo steps 0 Led.init es
theorem OkAll.there {steps : List (List Str)} : ∀ {L : Led} {es : List Deed} {i : Nat} {e : Deed}, OkAll steps L es → es[i]? = some e → okM (playAll steps L (es.take i)) e
  | _, [], _, _, _, h => by simp at h
  | L, x :: es, 0, e, h, hi => by
    simp at hi; subst hi; exact h.1
  | L, x :: es, i + 1, e, h, hi => OkAll.there (i := i) (e := e) h.2 (by simpa using hi)
theorem playAll_snoc {steps : List (List Str)} {L : Led} {es : List Deed} {i : Nat} {e : Deed} (h : es[i]? = some e) : playAll steps L (es.take (i + 1)) = playM steps (playAll steps L (es.take i)) e := by
  rw [List.take_add_one, h]
  simp [playAll, List.foldl_append]
theorem faultsGo_snoc {steps : List (List Str)} {e : Deed} : ∀ {es : List Deed} {L : Led} {k i : Nat}, es[i]? = some e → faultsGo steps k L (es.take (i + 1)) = faultsGo steps k L (es.take i) ++ (if isRun e then (wrongsM (playM steps (playAll steps L (es.take i)) e)).map fun x => (x.1, ((k + i : Nat) : Int), x.2) else [])
  | [], _, _, _, h => by simp at h
  | x :: es, L, k, 0, h => by
    simp at h; subst h
    simp [faultsGo, playAll]
  | x :: es, L, k, i + 1, h => by
    have ih := faultsGo_snoc (steps := steps) (es := es) (L := playM steps L x) (k := k + 1) (i := i) (by simpa using h)
    simp only [List.take_succ_cons, faultsGo]
    rw [ih, List.append_assoc]
    have e1 : k + 1 + i = k + (i + 1) := by omega
    rw [e1]; rfl
theorem faultsGo_take {steps : List (List Str)} : ∀ {es : List Deed} {L : Led} {k n : Nat}, (faultsGo steps k L (es.take n)).length ≤ (faultsGo steps k L es).length
  | [], _, _, _ => by simp
  | e :: es, L, k, 0 => by simp [faultsGo]
  | e :: es, L, k, n + 1 => by
    have ih := faultsGo_take (steps := steps) (es := es) (L := playM steps L e) (k := k + 1) (n := n)
    simp only [List.take_succ_cons, faultsGo, List.length_append]
    omega
end M

/-! # The ledgers as they stand in the heap -/
namespace M
open PySem L2
def tv : Option Int → V
  | none => .non
  | some i => .int i
theorem tv_inj {a b : Option Int} (h : tv a = tv b) : a = b := by
  cases a <;> cases b <;> simp [tv] at h ⊢; exact h
def oF (n : Int) (o : OL) : List (Str × V) := [("number", .int n), ("label", .int o.label), ("start", .int o.start), ("moves", .int o.moves), ("tie", tv o.tie), ("standing", .bl o.standing)]
def nF (n : NL) (t : Addr) : List (Str × V) := [("number", .int n.number), ("label", .int n.label), ("start", .int n.start), ("source", tv n.source), ("moves", .int n.moves), ("tie", tv n.tie), ("typed", .ref t)]
def lF (l1 l2 l3 d : Addr) (ever : Int) : List (Str × V) := [("elder", .ref l1), ("later", .ref l2), ("ever", .int ever), ("fresh", .ref l3), ("ahead", .ref d)]
/-- the classes -/
structure C3 where
  o : Addr
  n : Addr
  l : Addr
  on : o ≠ n
  ol : o ≠ l
  nl : n ≠ l
/-- addresses that may be touched: all that are free -/
def Dom (S : Addr → Prop) (H : Hp) : Prop := ∀ x, H x = none → S x
/-- what must not be touched stands -/
structure Keep (S : Addr → Prop) (H H' : Hp) : Prop where
  keep : ∀ b o, H b = some o → ¬ S b → H' b = some o
  tups : Tups H H'
theorem Keep.refl (S : Addr → Prop) (H : Hp) : Keep S H H := ⟨fun _ _ h _ => h, Tups.refl H⟩
theorem Keep.trans {S : Addr → Prop} {H H1 H2 : Hp} (a : Keep S H H1) (b : Keep S H1 H2) : Keep S H H2 := ⟨fun x o h n => b.keep x o (a.keep x o h n) n, a.tups.trans b.tups⟩
theorem _root_.L2.Same.kp {S : Addr → Prop} {H H' : Hp} (s : Same H H') : Keep S H H' := ⟨fun b o h _ => s b o h, s.tups⟩
theorem Keep.mut {S : Addr → Prop} {H : Hp} {p : Addr} {o : HO} (hs : S p) (h : Mut (H p)) : Keep S H (upd H p o) := ⟨fun b u e n => by rw [upd_ne (fun z => n (by rw [z]; exact hs))]; exact e, Tups.mut h⟩
theorem Keep.dom {S : Addr → Prop} {H H' : Hp} (k : Keep S H H') (d : Dom S H) : Dom S H' := fun x h => by
  cases e : H x with
  | none => exact d x e
  | some o =>
    by_cases q : S x
    · exact q
    · rw [k.keep x o e q] at h; cases h
theorem Keep.same {H H' : Hp} {H0 : Hp} (k : Keep (fun x => H0 x = none) H H') (s : Same H0 H) : Same H0 H' := fun b o e => k.keep b o (s b o e) fun z => by rw [e] at z; cases z
theorem Dom.of {H0 H : Hp} (s : Same H0 H) : Dom (fun x => H0 x = none) H := fun x h => s.free h
theorem keepAt {H : Hp} {x y : Addr} {o o0 u : HO} (hx : H x = some o) (hy : H y = some o0) (d : o ≠ o0) : upd H y u x = some o := by rw [upd_ne (ne_of hx hy d)]; exact hx
abbrev NS := List (Addr × Addr × NL)
/-- label and tie of the lines ahead of the last run -/
def AhAt (H : Hp) (d : Addr) (ah : List (Int × Int × Option Int)) : Prop := ∃ tps : List Addr, tps.length = ah.length ∧ H d = some (.dK ((ah.zip tps).map fun x => (Sum.inl x.1.1, V.ref x.2))) ∧
  ∀ (i : Nat) (x : Int × Int × Option Int) (t : Addr), ah[i]? = some x → tps[i]? = some t → H t = some (.tup [.int x.2.1, tv x.2.2])
theorem AhAt.stay {H H' : Hp} {d : Addr} {ah : List (Int × Int × Option Int)} (h : AhAt H d ah) (hd : ∀ o, H d = some o → H' d = some o) (t : Tups H H') : AhAt H' d ah := by
  obtain ⟨tps, h1, h2, h3⟩ := h
  exact ⟨tps, h1, hd _ h2, fun i x t' e1 e2 => t.1 _ _ (h3 i x t' e1 e2)⟩
structure LedP (C : C3) (S : Addr → Prop) (H : Hp) (a : Addr) (L : Led) (B : Nat) (da l1 l2 l3 d : Addr) (os : List (Addr × OL)) (ns : NS) : Prop where
  ob : H a = some (.ins C.l da (lF l1 l2 l3 d L.ever))
  el : L.elder = os.map (·.2)
  la : L.later = ns.map (·.2.2)
  e : H l1 = some (.lst (os.map fun x => V.ref x.1))
  n : H l2 = some (.lst (ns.map fun x => V.ref x.1))
  f : H l3 = some (.lst (L.fresh.map V.int))
  ah : AhAt H d L.ahead
  po : ∀ (j : Nat) x, os[j]? = some x → ∃ dx, H x.1 = some (.ins C.o dx (oF ((j : Int) + 1) x.2))
  qo : ∀ x ∈ ns, (∃ dx, H x.1 = some (.ins C.n dx (nF x.2.2 x.2.1))) ∧ H x.2.1 = some (.lst (x.2.2.typed.map V.str))
  ld : (l1 :: l2 :: l3 :: ns.map (·.2.1)).Nodup
  sa : S a ∧ S l1 ∧ S l2 ∧ S l3 ∧ S d
  so : ∀ x ∈ os, S x.1
  sn : ∀ x ∈ ns, S x.1 ∧ S x.2.1
  dom : Dom S H
  wf : WF L B
def LedAt (C : C3) (S : Addr → Prop) (H : Hp) (a : Addr) (L : Led) (B : Nat) : Prop := ∃ da l1 l2 l3 d os ns, LedP C S H a L B da l1 l2 l3 d os ns
section
variable {C : C3} {S : Addr → Prop} {H H' : Hp} {a : Addr} {L : Led} {B : Nat} {da l1 l2 l3 d : Addr} {os : List (Addr × OL)} {ns : NS}
theorem nd3 (h : (l1 :: l2 :: l3 :: ns.map (·.2.1)).Nodup) : l1 ≠ l2 ∧ l1 ≠ l3 ∧ l2 ≠ l3 ∧ (∀ x ∈ ns, l1 ≠ x.2.1 ∧ l2 ≠ x.2.1 ∧ l3 ≠ x.2.1) ∧ (ns.map (·.2.1)).Nodup := by
  simp only [List.nodup_cons, List.mem_cons, List.mem_map, not_or, not_exists, not_and] at h
  obtain ⟨⟨h1, h2, h3⟩, ⟨h4, h5⟩, h6, h7⟩ := h
  exact ⟨h1, h2, h4, fun x hx => ⟨fun z => h3 x hx z.symm, fun z => h5 x hx z.symm, fun z => h6 x hx z.symm⟩, h7⟩
/-- nothing of it has changed -/
theorem LedP.stay (P : LedP C S H a L B da l1 l2 l3 d os ns) (k : ∀ b o, H b = some o → S b → H' b = some o) (t : Tups H H') (hd : Dom S H') : LedP C S H' a L B da l1 l2 l3 d os ns :=
  ⟨k _ _ P.ob P.sa.1, P.el, P.la, k _ _ P.e P.sa.2.1, k _ _ P.n P.sa.2.2.1, k _ _ P.f P.sa.2.2.2.1, P.ah.stay (fun o h => k _ o h P.sa.2.2.2.2) t,
    fun j x h => let ⟨dx, h1⟩ := P.po j x h; ⟨dx, k _ _ h1 (P.so x (List.mem_of_getElem? h))⟩,
    fun x hx => let ⟨⟨dx, h1⟩, h2⟩ := P.qo x hx; ⟨⟨dx, k _ _ h1 (P.sn x hx).1⟩, k _ _ h2 (P.sn x hx).2⟩, P.ld, P.sa, P.so, P.sn, hd, P.wf⟩
theorem LedP.same (P : LedP C S H a L B da l1 l2 l3 d os ns) (s : Same H H') : LedP C S H' a L B da l1 l2 l3 d os ns :=
  P.stay (fun b o h _ => s b o h) s.tups fun x h => P.dom x (s.free h)
theorem LedP.mono (P : LedP C S H a L B da l1 l2 l3 d os ns) {B' : Nat} (h : B ≤ B') : LedP C S H a L B' da l1 l2 l3 d os ns :=
  ⟨P.ob, P.el, P.la, P.e, P.n, P.f, P.ah, P.po, P.qo, P.ld, P.sa, P.so, P.sn, P.dom, P.wf.mono h⟩
theorem LedP.elen (P : LedP C S H a L B da l1 l2 l3 d os ns) : L.elder.length = os.length := by rw [P.el, List.length_map]
theorem LedP.llen (P : LedP C S H a L B da l1 l2 l3 d os ns) : L.later.length = ns.length := by rw [P.la, List.length_map]
/-- two new lines with one number are one -/
theorem num_inj (w : WF L B) (la : L.later = ns.map (·.2.2)) {x y : Addr × Addr × NL} (hx : x ∈ ns) (hy : y ∈ ns) (h : x.2.2.number = y.2.2.number) : x = y := by
  have p : (ns.map (·.2.2.number)).Pairwise (· < ·) := by
    have := w.num
    rw [la] at this
    simpa [nums, List.map_map, Function.comp_def] using this
  clear la w
  induction ns with
  | nil => cases hx
  | cons z r ih =>
    rw [List.map_cons, List.pairwise_cons] at p
    rcases List.mem_cons.mp hx with hx | hx <;> rcases List.mem_cons.mp hy with hy | hy
    · rw [hx, hy]
    · have := p.1 _ (List.mem_map.mpr ⟨y, hy, rfl⟩)
      rw [hx] at h; omega
    · have := p.1 _ (List.mem_map.mpr ⟨x, hx, rfl⟩)
      rw [hy] at h; omega
    · exact ih hx hy p.2
theorem WF.map {f : NL → NL} (w : WF L B) (h : ∀ n ∈ L.later, (f n).number = n.number ∧ (f n).source = n.source ∧ (f n).typed.length ≤ B) : WF { L with later := L.later.map f } B := by
  have e1 : nums (L.later.map f) = nums L.later := by
    unfold nums; rw [List.map_map]; exact List.map_congr_left fun n hn => (h n hn).1
  have aux : ∀ l : List NL, (∀ n ∈ l, (f n).source = n.source) → srcs (l.map f) = srcs l ∧ owns (l.map f) = owns l := by
    intro l
    induction l with
    | nil => intro _; exact ⟨rfl, rfl⟩
    | cons n r ih =>
      intro hl
      obtain ⟨h1, h2⟩ := ih fun m hm => hl m (List.mem_cons_of_mem n hm)
      have e := hl n (by simp)
      unfold srcs at h1 ⊢
      unfold owns at h2 ⊢
      refine ⟨?_, ?_⟩
      · rw [List.map_cons, List.filterMap_cons, List.filterMap_cons, e, h1]
      · rw [List.map_cons, List.filter_cons, List.filter_cons, e]; split <;> simp [h2]
  obtain ⟨e2, e3⟩ := aux L.later fun n hn => (h n hn).2.1
  refine ⟨by show (nums (L.later.map f)).Pairwise _; rw [e1]; exact w.num, fun n hn => ?_, w.ev, by show ∀ s ∈ srcs (L.later.map f), _; rw [e2]; exact w.src, by show (srcs (L.later.map f)).Nodup; rw [e2]; exact w.nd, by show L.elder.length + owns (L.later.map f) ≤ B; rw [e3]; exact w.sz, fun n hn => ?_⟩
  · obtain ⟨m, hm, rfl⟩ := List.mem_map.mp hn
    rw [(h m hm).1]; exact w.lo m hm
  · obtain ⟨m, hm, rfl⟩ := List.mem_map.mp hn
    exact (h m hm).2.2
/-- one new line is changed, the list of what was typed but for its address -/
def updN (L : Led) (n' : NL) : Led := { L with later := L.later.map fun y => if y.number = n'.number then n' else y }
theorem LedP.upNew (P : LedP C S H a L B da l1 l2 l3 d os ns) {x : Addr × Addr × NL} {n' : NL} {dx : Addr} (hx : x ∈ ns) (h1 : n'.number = x.2.2.number) (h2 : n'.source = x.2.2.source) (h3 : n'.typed = x.2.2.typed)
    (hq : H x.1 = some (.ins C.n dx (nF x.2.2 x.2.1))) : LedP C S (upd H x.1 (.ins C.n dx (nF n' x.2.1))) a (updN L n') B da l1 l2 l3 d os (ns.map fun y => if y.2.2.number = n'.number then (y.1, y.2.1, n') else y) := by
  have map1 : ns.map (fun y => (if y.2.2.number = n'.number then (y.1, y.2.1, n') else y).1) = ns.map (·.1) := List.map_congr_left fun y _ => by split <;> rfl
  have map2 : ns.map (fun y => (if y.2.2.number = n'.number then (y.1, y.2.1, n') else y).2.1) = ns.map (·.2.1) := List.map_congr_left fun y _ => by split <;> rfl
  refine ⟨keepAt P.ob hq (by intro z; injection z with z1 _ _; exact C.nl z1.symm), P.el, ?_, keepAt P.e hq (by intro z; cases z), ?_, keepAt P.f hq (by intro z; cases z), ?_, fun j y hy => ?_, fun y hy => ?_, ?_, P.sa, P.so, fun y hy => ?_, ?_, ?_⟩
  · show L.later.map _ = _
    rw [P.la, List.map_map, List.map_map]
    refine List.map_congr_left fun y _ => ?_
    simp only [Function.comp]
    split <;> rfl
  · have e : (ns.map fun y => if y.2.2.number = n'.number then (y.1, y.2.1, n') else y).map (fun x => V.ref x.1) = ns.map fun x => V.ref x.1 := by
      rw [List.map_map]; exact List.map_congr_left fun y _ => by simp only [Function.comp]; split <;> rfl
    rw [e]; exact keepAt P.n hq (by intro z; cases z)
  · exact P.ah.stay (fun o h => by
      obtain ⟨tps, _, hd, _⟩ := P.ah
      rw [upd_ne (ne_of hd hq (by intro z; cases z))]; exact h) (Tups.mut (by rw [hq]; trivial))
  · obtain ⟨dy, h⟩ := P.po j y hy
    exact ⟨dy, keepAt h hq (by intro z; injection z with z1 _ _; exact C.on z1)⟩
  · obtain ⟨z, hz, rfl⟩ := List.mem_map.mp hy
    obtain ⟨⟨dz, hz1⟩, hz2⟩ := P.qo z hz
    by_cases e : z.2.2.number = n'.number
    · obtain rfl := num_inj P.wf P.la hz hx (e.trans h1)
      rw [if_pos e]
      refine ⟨⟨dx, upd_same⟩, ?_⟩
      show upd H z.1 _ z.2.1 = some (.lst (n'.typed.map V.str))
      rw [h3]; exact keepAt hz2 hq (by intro z; cases z)
    · rw [if_neg e]
      refine ⟨⟨dz, keepAt hz1 hq ?_⟩, keepAt hz2 hq (by intro z; cases z)⟩
      intro q
      injection q with _ _ q
      have q1 : V.int z.2.2.number = V.int x.2.2.number := by
        have := congrArg (List.lookup ("number" : Str)) q
        have e1 : (nF z.2.2 z.2.1).lookup ("number" : Str) = some (.int z.2.2.number) := rfl
        have e2 : (nF x.2.2 x.2.1).lookup ("number" : Str) = some (.int x.2.2.number) := rfl
        rw [e1, e2] at this; exact Option.some.inj this
      injection q1 with q1
      exact e (q1.trans h1.symm)
  · rw [List.map_map]
    have : (ns.map ((·.2.1) ∘ fun y => if y.2.2.number = n'.number then (y.1, y.2.1, n') else y)) = ns.map (·.2.1) := map2
    rw [this]; exact P.ld
  · obtain ⟨z, hz, rfl⟩ := List.mem_map.mp hy
    have := P.sn z hz
    split <;> exact this
  · intro y hy
    by_cases e : y = x.1
    · rw [e, upd_same] at hy; cases hy
    · rw [upd_ne e] at hy; exact P.dom y hy
  · refine P.wf.map fun m hm => ?_
    rw [P.la] at hm
    obtain ⟨z, hz, rfl⟩ := List.mem_map.mp hm
    by_cases e : z.2.2.number = n'.number
    · obtain rfl := num_inj P.wf P.la hz hx (e.trans h1)
      rw [if_pos e]
      refine ⟨h1, h2, ?_⟩
      rw [h3]; exact P.wf.ty _ (by rw [P.la]; exact List.mem_map.mpr ⟨z, hz, rfl⟩)
    · rw [if_neg e]
      exact ⟨rfl, rfl, P.wf.ty _ (by rw [P.la]; exact List.mem_map.mpr ⟨z, hz, rfl⟩)⟩
/-- one old line is changed -/
theorem LedP.upOld (P : LedP C S H a L B da l1 l2 l3 d os ns) {x : Addr × OL} {o' : OL} {j : Nat} {dx : Addr} (hx : os[j]? = some x) (hq : H x.1 = some (.ins C.o dx (oF ((j : Int) + 1) x.2))) :
    LedP C S (upd H x.1 (.ins C.o dx (oF ((j : Int) + 1) o'))) a { L with elder := L.elder.set j o' } B da l1 l2 l3 d (os.set j (x.1, o')) ns := by
  have hjl := (List.getElem?_eq_some_iff.mp hx).1
  refine ⟨keepAt P.ob hq (by intro z; injection z with z1 _ _; exact C.ol z1.symm), ?_, P.la, ?_, keepAt P.n hq (by intro z; cases z), keepAt P.f hq (by intro z; cases z), ?_, fun i y hy => ?_, fun y hy => ?_, P.ld, P.sa, fun y hy => ?_, P.sn, ?_, ?_⟩
  · show L.elder.set j o' = _
    rw [P.el, List.map_set]
  · have e : (os.set j (x.1, o')).map (fun x => V.ref x.1) = os.map fun x => V.ref x.1 := by
      rw [List.map_set]
      refine List.ext_getElem? fun i => ?_
      by_cases e : i = j
      · subst e
        rw [List.getElem?_set_self (by rw [List.length_map]; exact hjl), List.getElem?_map, hx]; rfl
      · rw [List.getElem?_set_ne (Ne.symm e)]
    rw [e]; exact keepAt P.e hq (by intro z; cases z)
  · exact P.ah.stay (fun o h => by
      obtain ⟨tps, _, hd, _⟩ := P.ah
      rw [upd_ne (ne_of hd hq (by intro z; cases z))]; exact h) (Tups.mut (by rw [hq]; trivial))
  · by_cases e : i = j
    · subst e
      rw [List.getElem?_set_self hjl] at hy
      cases hy
      exact ⟨dx, upd_same⟩
    · rw [List.getElem?_set_ne (Ne.symm e)] at hy
      obtain ⟨dy, h⟩ := P.po i y hy
      refine ⟨dy, keepAt h hq ?_⟩
      intro q
      injection q with _ _ q
      have := congrArg (List.lookup ("number" : Str)) q
      have e1 : (oF ((i : Int) + 1) y.2).lookup ("number" : Str) = some (.int ((i : Int) + 1)) := rfl
      have e2 : (oF ((j : Int) + 1) x.2).lookup ("number" : Str) = some (.int ((j : Int) + 1)) := rfl
      rw [e1, e2] at this
      have := Option.some.inj this
      injection this with this
      omega
  · obtain ⟨⟨dy, h1⟩, h2⟩ := P.qo y hy
    exact ⟨⟨dy, keepAt h1 hq (by intro z; injection z with z1 _ _; exact C.on z1.symm)⟩, keepAt h2 hq (by intro z; cases z)⟩
  · rcases List.mem_or_eq_of_mem_set hy with h | h
    · exact P.so y h
    · rw [h]; exact P.so x (List.mem_of_getElem? hx)
  · intro y hy
    by_cases e : y = x.1
    · rw [e, upd_same] at hy; cases hy
    · rw [upd_ne e] at hy; exact P.dom y hy
  · have w := P.wf
    exact ⟨w.num, w.lo, w.ev, by show ∀ s ∈ srcs L.later, 1 ≤ s ∧ s ≤ ((L.elder.set j o').length : Int); rw [List.length_set]; exact w.src, w.nd, by show (L.elder.set j o').length + _ ≤ B; rw [List.length_set]; exact w.sz, w.ty⟩
/-- tuples stand where all but two mutable things stand -/
theorem tups_of {H H' : Hp} {p q : Addr} (hp : Mut (H p)) (hq : Mut (H q)) (k : ∀ b o, H b = some o → b ≠ p → b ≠ q → H' b = some o) : Tups H H' :=
  ⟨fun b xs e => k b _ e (fun z => by rw [z] at e; rw [e] at hp; exact hp) (fun z => by rw [z] at e; rw [e] at hq; exact hq), fun b o xs e => k b _ e (fun z => by rw [z] at e; rw [e] at hp; exact hp) (fun z => by rw [z] at e; rw [e] at hq; exact hq)⟩
/-- an old line is added -/
theorem LedP.addOld (P : LedP C S H a L B da l1 l2 l3 d os ns) {x dx : Addr} {o : OL} {B' : Nat} (hx : H' x = some (.ins C.o dx (oF ((os.length : Int) + 1) o))) (hn : H x = none)
    (h1 : H' l1 = some (.lst (os.map (fun x => V.ref x.1) ++ [.ref x]))) (k : ∀ b o, H b = some o → b ≠ l1 → H' b = some o) (hd : ∀ b, H' b = none → H b = none) (w : L.elder.length + 1 + owns L.later ≤ B') (hB : B ≤ B') :
    LedP C S H' a { L with elder := L.elder ++ [o] } B' da l1 l2 l3 d (os ++ [(x, o)]) ns := by
  have n3 := nd3 P.ld
  have t : Tups H H' := tups_of (p := l1) (q := l1) (by rw [P.e]; trivial) (by rw [P.e]; trivial) fun b o e n _ => k b o e n
  refine ⟨k _ _ P.ob (ne_of P.ob P.e (by intro z; cases z)), ?_, P.la, ?_, k _ _ P.n n3.1.symm, k _ _ P.f n3.2.1.symm, P.ah.stay (fun o h => k _ o h (by
      obtain ⟨tps, _, hd, _⟩ := P.ah
      exact ne_of hd P.e (by intro z; cases z))) t, fun j y hy => ?_, fun y hy => ?_, P.ld, P.sa, fun y hy => ?_, P.sn, fun b hb => P.dom b (hd b hb), ?_⟩
  · show L.elder ++ [o] = _
    rw [P.el, List.map_append]; rfl
  · rw [h1, List.map_append]; rfl
  · by_cases e : j < os.length
    · rw [List.getElem?_append_left e] at hy
      obtain ⟨dy, h⟩ := P.po j y hy
      exact ⟨dy, k _ _ h (ne_of h P.e (by intro z; cases z))⟩
    · rw [List.getElem?_append_right (by omega)] at hy
      have e0 : j - os.length = 0 := by
        by_cases z : j - os.length = 0
        · exact z
        · exfalso
          rw [List.getElem?_eq_none (by simp; omega)] at hy; cases hy
      rw [e0] at hy
      cases hy
      have e1 : (j : Int) = (os.length : Int) := by omega
      rw [e1]; exact ⟨dx, hx⟩
  · obtain ⟨⟨dy, h1⟩, h2⟩ := P.qo y hy
    exact ⟨⟨dy, k _ _ h1 (ne_of h1 P.e (by intro z; cases z))⟩, k _ _ h2 (n3.2.2.2.1 y hy).1.symm⟩
  · rcases List.mem_append.mp hy with h | h
    · exact P.so y h
    · cases List.mem_singleton.mp h; exact P.dom _ hn
  · have w0 := P.wf
    refine ⟨w0.num, w0.lo, w0.ev, fun s hs => ?_, w0.nd, ?_, fun n hn => Nat.le_trans (w0.ty n hn) hB⟩
    · have := w0.src s hs
      show 1 ≤ s ∧ s ≤ ((L.elder ++ [o]).length : Int)
      rw [List.length_append]; simp; omega
    · show (L.elder ++ [o]).length + owns L.later ≤ B'
      rw [List.length_append]; simpa using w
/-- a new line is added -/
theorem LedP.addNew (P : LedP C S H a L B da l1 l2 l3 d os ns) {x dx t : Addr} {n : NL} {B' : Nat} (hx : H' x = some (.ins C.n dx (nF n t))) (hn : H x = none) (ht : H' t = some (.lst [])) (hnt : H t = none) (hty : n.typed = [])
    (h0 : H' a = some (.ins C.l da (lF l1 l2 l3 d (L.ever + 1)))) (h1 : H' l2 = some (.lst (ns.map (fun x => V.ref x.1) ++ [.ref x]))) (k : ∀ b o, H b = some o → b ≠ a → b ≠ l2 → H' b = some o) (hd : ∀ b, H' b = none → H b = none)
    (w : WF { L with later := L.later ++ [n], ever := L.ever + 1 } B') : LedP C S H' a { L with later := L.later ++ [n], ever := L.ever + 1 } B' da l1 l2 l3 d os (ns ++ [(x, t, n)]) := by
  have n3 := nd3 P.ld
  have tu : Tups H H' := tups_of (p := a) (q := l2) (by rw [P.ob]; trivial) (by rw [P.n]; trivial) k
  refine ⟨h0, P.el, ?_, k _ _ P.e (ne_of P.e P.ob (by intro z; cases z)) n3.1, ?_, k _ _ P.f (ne_of P.f P.ob (by intro z; cases z)) n3.2.2.1.symm, P.ah.stay (fun o h => by
      obtain ⟨tps, _, hd, _⟩ := P.ah
      exact k _ o h (ne_of hd P.ob (by intro z; cases z)) (ne_of hd P.n (by intro z; cases z))) tu, fun j y hy => ?_, fun y hy => ?_, ?_, P.sa, P.so, fun y hy => ?_, fun b hb => P.dom b (hd b hb), w⟩
  · show L.later ++ [n] = _
    rw [P.la, List.map_append]; rfl
  · rw [h1, List.map_append]; rfl
  · obtain ⟨dy, h⟩ := P.po j y hy
    exact ⟨dy, k _ _ h (ne_of h P.ob (by intro z; injection z with z1 _ _; exact C.ol z1)) (ne_of h P.n (by intro z; cases z))⟩
  · rcases List.mem_append.mp hy with hy | hy
    · obtain ⟨⟨dy, h1⟩, h2⟩ := P.qo y hy
      exact ⟨⟨dy, k _ _ h1 (ne_of h1 P.ob (by intro z; injection z with z1 _ _; exact C.nl z1)) (ne_of h1 P.n (by intro z; cases z))⟩, k _ _ h2 (ne_of h2 P.ob (by intro z; cases z)) (n3.2.2.2.1 y hy).2.1.symm⟩
    · cases List.mem_singleton.mp hy
      exact ⟨⟨dx, hx⟩, by show H' t = some (.lst (n.typed.map V.str)); rw [hty]; exact ht⟩
  · have h := P.ld
    have hm : ∀ z ∈ l1 :: l2 :: l3 :: ns.map (·.2.1), z ≠ t := by
      intro z hz e
      subst e
      rcases List.mem_cons.mp hz with e | hz
      · rw [e, P.e] at hnt; cases hnt
      rcases List.mem_cons.mp hz with e | hz
      · rw [e, P.n] at hnt; cases hnt
      rcases List.mem_cons.mp hz with e | hz
      · rw [e, P.f] at hnt; cases hnt
      obtain ⟨y, hy, e⟩ := List.mem_map.mp hz
      have := (P.qo y hy).2
      rw [e, hnt] at this; cases this
    have e : l1 :: l2 :: l3 :: (ns ++ [(x, t, n)]).map (·.2.1) = (l1 :: l2 :: l3 :: ns.map (·.2.1)) ++ [t] := by simp
    rw [e, List.nodup_append]
    exact ⟨h, by simp, fun z hz y hy => by cases List.mem_singleton.mp hy; exact hm z hz⟩
  · rcases List.mem_append.mp hy with hy | hy
    · exact P.sn y hy
    · cases List.mem_singleton.mp hy; exact ⟨P.dom _ hn, P.dom _ hnt⟩
theorem nd_inj {α β : Type} {f : α → β} : ∀ {l : List α}, (l.map f).Nodup → ∀ {x y : α}, x ∈ l → y ∈ l → f x = f y → x = y
  | [], _, _, _, hx, _, _ => absurd hx (List.not_mem_nil)
  | z :: r, h, x, y, hx, hy, e => by
    rw [List.map_cons, List.nodup_cons] at h
    rcases List.mem_cons.mp hx with hx | hx <;> rcases List.mem_cons.mp hy with hy | hy
    · rw [hx, hy]
    · exact absurd (List.mem_map.mpr ⟨y, hy, by rw [← hx, e]⟩) h.1
    · exact absurd (List.mem_map.mpr ⟨x, hx, by rw [← hy, e]⟩) h.1
    · exact nd_inj h.2 hx hy e
theorem keepN {H H' : Hp} {x y : Addr} {o o0 : HO} (k : ∀ b o, H b = some o → b ≠ y → H' b = some o) (hx : H x = some o) (hy : H y = some o0) (d : o ≠ o0) : H' x = some o := k x o hx (ne_of hx hy d)
/-- one new line is changed, what was typed in it too -/
theorem LedP.upNewT (P : LedP C S H a L B da l1 l2 l3 d os ns) {x : Addr × Addr × NL} {n' : NL} {dx : Addr} {B' : Nat} (hx : x ∈ ns) (h1 : n'.number = x.2.2.number) (h2 : n'.source = x.2.2.source)
    (hq : H x.1 = some (.ins C.n dx (nF x.2.2 x.2.1))) (hq' : H' x.1 = some (.ins C.n dx (nF n' x.2.1))) (ht' : H' x.2.1 = some (.lst (n'.typed.map V.str))) (k : ∀ b o, H b = some o → b ≠ x.1 → b ≠ x.2.1 → H' b = some o) (hd : ∀ b, H' b = none → H b = none)
    (hB : B ≤ B') (hl : n'.typed.length ≤ B') : LedP C S H' a (updN L n') B' da l1 l2 l3 d os (ns.map fun y => if y.2.2.number = n'.number then (y.1, y.2.1, n') else y) := by
  have n3 := nd3 P.ld
  have ht := (P.qo x hx).2
  have tu : Tups H H' := tups_of (p := x.1) (q := x.2.1) (by rw [hq]; trivial) (by rw [ht]; trivial) k
  have map2 : ns.map (fun y => (if y.2.2.number = n'.number then (y.1, y.2.1, n') else y).2.1) = ns.map (·.2.1) := List.map_congr_left fun y _ => by split <;> rfl
  have nex : ∀ {o : HO} {b : Addr}, H b = some o → o ≠ .ins C.n dx (nF x.2.2 x.2.1) → b ≠ x.1 := fun h n => ne_of h hq n
  have net : ∀ {o : HO} {b : Addr}, H b = some o → o ≠ .lst (x.2.2.typed.map V.str) → b ≠ x.2.1 := fun h n => ne_of h ht n
  refine ⟨k _ _ P.ob (nex P.ob (by intro z; injection z with z1 _ _; exact C.nl z1.symm)) (net P.ob (by intro z; cases z)), P.el, ?_, k _ _ P.e (nex P.e (by intro z; cases z)) (n3.2.2.2.1 x hx).1, ?_, k _ _ P.f (nex P.f (by intro z; cases z)) (n3.2.2.2.1 x hx).2.2, ?_, fun j y hy => ?_, fun y hy => ?_, ?_, P.sa, P.so, fun y hy => ?_, fun b hb => P.dom b (hd b hb), ?_⟩
  · show L.later.map _ = _
    rw [P.la, List.map_map, List.map_map]
    refine List.map_congr_left fun y _ => ?_
    simp only [Function.comp]
    split <;> rfl
  · have e : (ns.map fun y => if y.2.2.number = n'.number then (y.1, y.2.1, n') else y).map (fun x => V.ref x.1) = ns.map fun x => V.ref x.1 := by
      rw [List.map_map]; exact List.map_congr_left fun y _ => by simp only [Function.comp]; split <;> rfl
    rw [e]; exact k _ _ P.n (nex P.n (by intro z; cases z)) (n3.2.2.2.1 x hx).2.1
  · exact P.ah.stay (fun o h => by
      obtain ⟨tps, _, hd, _⟩ := P.ah
      exact k _ o h (nex hd (by intro z; cases z)) (net hd (by intro z; cases z))) tu
  · obtain ⟨dy, h⟩ := P.po j y hy
    exact ⟨dy, k _ _ h (nex h (by intro z; injection z with z1 _ _; exact C.on z1)) (net h (by intro z; cases z))⟩
  · obtain ⟨z, hz, rfl⟩ := List.mem_map.mp hy
    obtain ⟨⟨dz, hz1⟩, hz2⟩ := P.qo z hz
    by_cases e : z.2.2.number = n'.number
    · obtain rfl := num_inj P.wf P.la hz hx (e.trans h1)
      rw [if_pos e]
      exact ⟨⟨dx, hq'⟩, ht'⟩
    · rw [if_neg e]
      have nz : z.2.1 ≠ x.2.1 := fun q => e (by rw [nd_inj n3.2.2.2.2 hz hx q]; exact h1.symm)
      refine ⟨⟨dz, k _ _ hz1 (nex hz1 ?_) (net hz1 (by intro z; cases z))⟩, k _ _ hz2 (nex hz2 (by intro z; cases z)) nz⟩
      intro q
      injection q with _ _ q
      have q1 : V.int z.2.2.number = V.int x.2.2.number := by
        have := congrArg (List.lookup ("number" : Str)) q
        have e1 : (nF z.2.2 z.2.1).lookup ("number" : Str) = some (.int z.2.2.number) := rfl
        have e2 : (nF x.2.2 x.2.1).lookup ("number" : Str) = some (.int x.2.2.number) := rfl
        rw [e1, e2] at this; exact Option.some.inj this
      injection q1 with q1
      exact e (q1.trans h1.symm)
  · rw [List.map_map]
    have : (ns.map ((·.2.1) ∘ fun y => if y.2.2.number = n'.number then (y.1, y.2.1, n') else y)) = ns.map (·.2.1) := map2
    rw [this]; exact P.ld
  · obtain ⟨z, hz, rfl⟩ := List.mem_map.mp hy
    have := P.sn z hz
    split <;> exact this
  · refine (P.wf.mono hB).map fun m hm => ?_
    rw [P.la] at hm
    obtain ⟨z, hz, rfl⟩ := List.mem_map.mp hm
    by_cases e : z.2.2.number = n'.number
    · obtain rfl := num_inj P.wf P.la hz hx (e.trans h1)
      rw [if_pos e]
      exact ⟨h1, h2, hl⟩
    · rw [if_neg e]
      exact ⟨rfl, rfl, Nat.le_trans (P.wf.ty _ (by rw [P.la]; exact List.mem_map.mpr ⟨z, hz, rfl⟩)) hB⟩
/-! ### the deeds, in plain data -/
theorem setOld_eq {L : Led} {n : Int} {j : Nat} {o : OL} {f : OL → OL} (hn : n = (j : Int) + 1) (h : L.elder[j]? = some o) : setOld L n f = { L with elder := L.elder.set j (f o) } := by
  unfold setOld
  have e : (n - 1).toNat = j := by omega
  rw [e]
  congr 1
  refine List.ext_getElem? fun i => ?_
  rw [List.getElem?_modify, List.getElem?_set]
  by_cases q : j = i
  · subst q
    have hl := (List.getElem?_eq_some_iff.mp h).1
    rw [h, if_pos rfl, if_pos hl]
    show some (if j = j then f o else o) = some (f o)
    rw [if_pos rfl]
  · simp [q]
theorem setNew_eq {f : NL → NL} (w : WF L B) (la : L.later = ns.map (·.2.2)) {x : Addr × Addr × NL} (hx : x ∈ ns) (hf : (f x.2.2).number = x.2.2.number) : setNew L x.2.2.number f = updN L (f x.2.2) := by
  unfold setNew updN
  congr 1
  rw [hf]
  refine List.map_congr_left fun y hy => ?_
  rw [la] at hy
  obtain ⟨z, hz, rfl⟩ := List.mem_map.mp hy
  by_cases e : z.2.2.number = x.2.2.number
  · obtain rfl := num_inj w la hz hx e
    simp
  · simp [e]
theorem WF.own (w : WF L B) (l : Int) : WF (putM L l 0 none) (B + 1) := by
  have e1 : nums (putM L l 0 none).later = nums L.later ++ [L.ever + 1] := by simp [putM, nums]
  have e2 : srcs (putM L l 0 none).later = srcs L.later := by simp [putM, srcs]
  have e3 : owns (putM L l 0 none).later = owns L.later + 1 := by simp [putM, owns]
  refine ⟨?_, fun n hn => ?_, ?_, ?_, ?_, ?_, fun n hn => ?_⟩
  · rw [e1, List.pairwise_append]
    refine ⟨w.num, by simp, fun a ha b hb => ?_⟩
    cases List.mem_singleton.mp hb
    obtain ⟨m, hm, rfl⟩ := List.mem_map.mp ha
    have := (w.lo m hm).2
    omega
  · rcases List.mem_append.mp hn with hn | hn
    · have := w.lo n hn
      exact ⟨this.1, by show n.number ≤ L.ever + 1; omega⟩
    · cases List.mem_singleton.mp hn
      have := w.ev
      exact ⟨by show 1 ≤ L.ever + 1; omega, by show L.ever + 1 ≤ L.ever + 1; omega⟩
  · have := w.ev; show 0 ≤ L.ever + 1; omega
  · rw [e2]; exact w.src
  · rw [e2]; exact w.nd
  · rw [e3]; have := w.sz; show L.elder.length + (owns L.later + 1) ≤ B + 1; omega
  · rcases List.mem_append.mp hn with hn | hn
    · exact Nat.le_trans (w.ty n hn) (Nat.le_succ B)
    · cases List.mem_singleton.mp hn
      exact Nat.zero_le _
theorem Keep.weak {S T : Addr → Prop} (h : ∀ x, T x → S x) (k : Keep T H H') : Keep S H H' := ⟨fun b o e n => k.keep b o e fun t => n (h b t), k.tups⟩
/-- other places may be touched from now on -/
theorem LedP.sub {T : Addr → Prop} (P : LedP C S H a L B da l1 l2 l3 d os ns) (s : Same H H') (hs : ∀ x o, H x = some o → S x → T x) (hd : Dom T H') : LedP C T H' a L B da l1 l2 l3 d os ns := by
  have p := P.same s
  obtain ⟨_, _, hah, _⟩ := P.ah
  exact ⟨p.ob, p.el, p.la, p.e, p.n, p.f, p.ah, p.po, p.qo, p.ld, ⟨hs _ _ P.ob P.sa.1, hs _ _ P.e P.sa.2.1, hs _ _ P.n P.sa.2.2.1, hs _ _ P.f P.sa.2.2.2.1, hs _ _ hah P.sa.2.2.2.2⟩,
    fun x hx => by
      obtain ⟨j, hj⟩ := List.mem_iff_getElem?.mp hx
      obtain ⟨dx, h⟩ := P.po j x hj
      exact hs _ _ h (P.so x hx),
    fun x hx => by
      obtain ⟨⟨dx, h1⟩, h2⟩ := P.qo x hx
      exact ⟨hs _ _ h1 (P.sn x hx).1, hs _ _ h2 (P.sn x hx).2⟩, hd, p.wf⟩
theorem LedAt.same (h : LedAt C S H a L B) (s : Same H H') : LedAt C S H' a L B := by
  obtain ⟨_, _, _, _, _, _, _, p⟩ := h
  exact ⟨_, _, _, _, _, _, _, p.same s⟩
theorem LedAt.sub {T : Addr → Prop} (h : LedAt C S H a L B) (s : Same H H') (hs : ∀ x o, H x = some o → S x → T x) (hd : Dom T H') : LedAt C T H' a L B := by
  obtain ⟨_, _, _, _, _, _, _, p⟩ := h
  exact ⟨_, _, _, _, _, _, _, p.sub s hs hd⟩
theorem LedAt.stay (h : LedAt C S H a L B) (k : ∀ b o, H b = some o → S b → H' b = some o) (t : Tups H H') (hd : Dom S H') : LedAt C S H' a L B := by
  obtain ⟨_, _, _, _, _, _, _, p⟩ := h
  exact ⟨_, _, _, _, _, _, _, p.stay k t hd⟩
theorem LedAt.mono {B' : Nat} (h : LedAt C S H a L B) (hb : B ≤ B') : LedAt C S H a L B' := by
  obtain ⟨_, _, _, _, _, _, _, p⟩ := h
  exact ⟨_, _, _, _, _, _, _, p.mono hb⟩
end
end M

namespace L2
open PySem PySem.Spec PyProof.Rows
/-- the turns of enumerate(list) -/
theorem for_enumL {K : PySem.W.Frag} {a : Addr} {xs : List V} {g : TG} {tb : TS} {D : Ends} {σ : St} {H : Hp} (Pv : Nat → St → Hp → Prop) (h0 : Pv 0 σ H) (hl : ∀ i σ H, i ≤ xs.length → Pv i σ H → SqL K H a xs)
    (hs : ∀ i x T σ H, xs[i]? = some x → Pv i σ H → H T = none → g (.ref T) σ (upd H T (.tup [.int (i : Nat), x])) fun σ2 H2 => tb { D with nx := Pv (i + 1), ct := Pv (i + 1), bk := D.nx } σ2 H2) (hd : ∀ σ H, Pv xs.length σ H → D.nx σ H) :
    ∃ W : Nat → Nat → St → Hp → Prop, (∃ m, W 0 m σ H) ∧ ∀ i m σ H, W i m σ H →
      ((Ite K a).stop i H ∧ D.nx σ H) ∨ ((Ite K a).go i H ∧ ∃ N : St → Hp → Prop, (∀ σ' H', N σ' H' → ∃ m', m' < m ∧ W (i + 1) m' σ' H') ∧ ∀ x H', (Ite K a).yld i H x H' → g x σ H' fun σ2 H2 => tb { D with nx := N, ct := N, bk := D.nx } σ2 H2) := by
  refine ⟨fun i m σ H => m = xs.length - i ∧ i ≤ xs.length ∧ Pv i σ H, ⟨xs.length, by simp, Nat.zero_le _, h0⟩, ?_⟩
  rintro i m σ H ⟨rfl, hi, p⟩
  have q := hl i σ H hi p
  by_cases hlt : i < xs.length
  · refine .inr ⟨⟨xs, xs[i], q, by simp [hlt]⟩, Pv (i + 1), fun σ' H' p' => ⟨xs.length - (i + 1), by omega, rfl, hlt, p'⟩, fun x H' y => ?_⟩
    obtain ⟨T, x', rfl, hT, rfl, hx⟩ := y
    exact hs i x' T σ H (hx xs q) p hT
  · have e : i = xs.length := by omega
    subst e
    exact .inl ⟨⟨xs, q, Nat.le_refl _⟩, hd σ H p⟩
/-! ### a list of anything != an empty one -/
def rNeE (K : PySem.W.Frag) : R2 := fun x y H Q => ∃ a b xs, x = .ref a ∧ y = .ref b ∧ SqL K H a xs ∧ SqL K H b [] ∧ Q (.bl (!xs.isEmpty)) H
theorem op_neE {X : Cx} (K : PySem.W.Frag) (hu : X.A.units + 65 < cLine) (hK : X.K = K := by rfl) : OpR X (compareOp .NotEq) (rNeE K) := by
  subst hK
  intro pins s σ H x y v u Q I rx ry h
  obtain ⟨a, b, xs, rfl, rfl, ha, hb, q⟩ := h
  obtain rfl : v = Value.ref a := rx
  obtain rfl : u = Value.ref b := ry
  obtain ⟨its, rv, pl, _⟩ := I.list ha
  obtain ⟨its2, rv2, pl2, _⟩ := I.list hb
  have e2 := rv2.length
  have e1 := rv.length
  obtain rfl : its2 = [] := List.length_eq_zero_iff.mp (by simpa using e2.symm)
  cases xs with
  | nil =>
    obtain rfl : its = [] := List.length_eq_zero_iff.mp (by simpa using e1.symm)
    refine PySem.SeqAt.RcNeAt.lists (e := fun _ => true) pl.isList pl2.isList rfl (by omega) (fun j h1 h2 => absurd h1 (by simp)) X.prog X.w _ _ ?_
    exact ⟨.bl _, H, I, rfl, q⟩
  | cons x xs =>
    refine PySem.SeqAt.RcNeAt.lists_lengths pl.isList pl2.isList ?_ (by omega) X.prog X.w _ _ ?_
    · have : its.length ≠ 0 := by rw [← e1]; simp
      simpa using this
    · exact ⟨.bl _, H, I, rfl, q⟩
theorem DpAll.snoc {K : PySem.W.Frag} {H : Hp} : ∀ {ys : List V} {ds : List PyData} {v : V} {d : PyData}, DpAll K H ys ds → Dp K H v d → DpAll K H (ys ++ [v]) (ds ++ [d]) := fun h1 h2 => h1.append (.one h2)
theorem immAll_take : ∀ {ds : List PyData} (n : Nat), immAll ds = true → immAll (ds.take n) = true
  | _, 0, _ => rfl
  | [], _ + 1, _ => rfl
  | d :: ds, n + 1, h => by
    simp only [immAll, Bool.and_eq_true] at h
    simp only [List.take_succ_cons, immAll, Bool.and_eq_true]
    exact ⟨h.1, immAll_take n h.2⟩
theorem immAll_get : ∀ {ds : List PyData} {n : Nat} {d : PyData}, immAll ds = true → ds[n]? = some d → imm d = true
  | [], _, _, _, e => by simp at e
  | d :: ds, 0, _, h, e => by
    simp only [immAll, Bool.and_eq_true] at h
    simp at e; subst e; exact h.1
  | d :: ds, n + 1, x, h, e => by
    simp only [immAll, Bool.and_eq_true] at h
    exact immAll_get (n := n) (d := x) h.2 (by simpa using e)
/-- [e(x) for x in l], data of each -/
theorem lcMap {K : PySem.W.Frag} {tl te : TE} {i : Nat} {σ : St} {H : Hp} {Q : VK} {l : Addr} {xs : List V} {ds : List PyData} (htl : ∀ Q : VK, Q (.ref l) H → tl σ H Q) (hl : SqL K H l xs) (hlen : ds.length = xs.length) (hz : xs.length < 100000) (hi : immAll ds = true)
    (hw : ∀ x, wipe ((wipe σ [i]).set i (some x)) [i] = wipe σ [i]) (each : ∀ (j : Nat) x d H', xs[j]? = some x → ds[j]? = some d → Same H H' → Gv K te ((wipe σ [i]).set i (some x)) H' d)
    (q : ∀ D ys H', H D = none → Same H H' → H' D = some (.lst ys) → DpAll K H' ys ds → Q (.ref D) H') : tLc (iList K tl) (gName i) tYes te [i] σ H Q := by
  refine htl _ ⟨l, rfl, ⟨_, hl⟩, fun D nD => ?_⟩
  have sl : ∀ {H' : Hp}, Same H H' → SqL K H' l xs := fun {H'} s => by
    rcases hl with (h | ⟨o, h⟩) | h
    · exact .inl (.inl (s _ _ h))
    · exact .inl (.inr ⟨o, s _ _ h⟩)
    · exact .inr h
  refine lc_list (K := K) (a := l) (xs := xs) (fun j H' => Same H H' ∧ ∃ ys, H' D = some (.lst ys) ∧ DpAll K H' ys (ds.take j)) ⟨Same.new nD, [], upd_same, .nil⟩ (fun j H' _ h => sl h.1) ?_ ?_
  · rintro j x H' hx ⟨s, ys, hD, hys⟩
    have hj : j < ds.length := by rw [hlen]; exact (List.getElem?_eq_some_iff.mp hx).1
    have hd := List.getElem?_eq_getElem hj
    refine ⟨hw x, ?_⟩
    refine Gv.go (each j x _ H' hx hd s) fun v H2 s2 hv => ⟨ys, s2 _ _ hD, ?_, ?_⟩
    · refine line_lt ?_
      rw [hys.length, List.length_take]; omega
    · have t : Tups H2 (upd H2 D (.lst (ys ++ [v]))) := Tups.mut (by rw [s2 _ _ hD]; trivial)
      refine ⟨(s.trans s2).mut nD, _, upd_same, ?_⟩
      rw [List.take_add_one, hd]
      exact (t.dpAll (immAll_take j hi) (s2.dpAll hys)).snoc (t.dp (immAll_get hi hd) hv)
  · rintro H' ⟨s, ys, hD, hys⟩
    rw [← hlen, List.take_length] at hys
    exact q D ys H' nD s hD hys
theorem SqL.same {K : PySem.W.Frag} {H H' : Hp} {l : Addr} {xs : List V} (hl : SqL K H l xs) (s : Same H H') : SqL K H' l xs := by
  rcases hl with (h | ⟨o, h⟩) | h
  · exact .inl (.inl (s _ _ h))
  · exact .inl (.inr ⟨o, s _ _ h⟩)
  · exact .inr h
/-- [g(x) for x in l if f(x)] -/
theorem lcFM {α : Type} {K : PySem.W.Frag} {tl te : TE} {tt : TT} {i : Nat} {σ : St} {H : Hp} {Q : VK} {l : Addr} (items : List α) (val g : α → V) (f : α → Bool) (htl : ∀ Q : VK, Q (.ref l) H → tl σ H Q) (hl : SqL K H l (items.map val)) (hz : items.length < 100000)
    (hw : ∀ x, wipe ((wipe σ [i]).set i (some x)) [i] = wipe σ [i])
    (each : ∀ (j : Nat) x H', items[j]? = some x → Same H H' → ∀ R : Bool → Hp → Prop, (∀ H2, Same H' H2 → R (f x) H2) → tt ((wipe σ [i]).set i (some (val x))) H' R)
    (each2 : ∀ (j : Nat) x H', items[j]? = some x → f x = true → Same H H' → ∀ R : VK, (∀ H2, Same H' H2 → R (g x) H2) → te ((wipe σ [i]).set i (some (val x))) H' R)
    (q : ∀ D H', H D = none → Same H H' → H' D = some (.lst ((items.filter f).map g)) → Q (.ref D) H') : tLc (iList K tl) (gName i) tt te [i] σ H Q := by
  refine htl _ ⟨l, rfl, ⟨_, hl⟩, fun D nD => ?_⟩
  refine lc_list (K := K) (a := l) (xs := items.map val) (fun j H' => Same H H' ∧ H' D = some (.lst (((items.take j).filter f).map g))) ⟨Same.new nD, upd_same⟩ (fun j H' _ h => hl.same h.1) ?_ ?_
  · rintro j x H' hx ⟨s, hD⟩
    rw [List.getElem?_map] at hx
    obtain ⟨y, hy, rfl⟩ := Option.map_eq_some_iff.mp hx
    have ht : items.take (j + 1) = items.take j ++ [y] := by rw [List.take_add_one, hy]; rfl
    refine ⟨hw _, ?_⟩
    refine each j y H' hy s _ fun H2 s2 => ?_
    by_cases hf : f y = true
    · rw [if_pos hf]
      refine each2 j y H2 hy hf (s.trans s2) _ fun H3 s3 => ⟨_, s3 _ _ (s2 _ _ hD), ?_, ((s.trans s2).trans s3).mut nD, ?_⟩
      · refine line_lt ?_
        rw [List.length_map]
        have h1 := List.length_filter_le f (items.take j)
        have h2 := List.length_take_le j items
        have h3 := List.length_take_le' j items
        omega
      · rw [upd_same, ht, List.filter_append, List.map_append]
        simp [hf]
    · rw [if_neg hf]
      refine ⟨s.trans s2, ?_⟩
      rw [s2 _ _ hD, ht, List.filter_append]
      simp [hf]
  · rintro H' ⟨s, hD⟩
    rw [List.length_map, List.take_length] at hD
    exact q D H' nD s hD
/-! ### one step at a time -/
theorem gName_app {i : Nat} {x : V} {σ : St} {H : Hp} {Q : St → Hp → Prop} : gName i x σ H Q = Q (σ.set i (some x)) H := rfl
theorem tAsg_app {te : TE} {g : TG} {D : Ends} {σ : St} {H : Hp} : tAsg te g D σ H = te σ H fun x H1 => g x σ H1 D.nx := rfl
theorem tSeq_app {t u : TS} {D : Ends} {σ : St} {H : Hp} : tSeq t u D σ H = t { D with nx := u D } σ H := rfl
theorem tRet_app {te : TE} {D : Ends} {σ : St} {H : Hp} : tRet te D σ H = te σ H D.rt := rfl
theorem tTup_app {ta : TA} {σ : St} {H : Hp} {Q : VK} : tTup ta σ H Q = ta σ H fun xs H1 => xs.length ≤ sizeLine ∧ ∀ p, H1 p = none → Q (.ref p) (upd H1 p (.tup xs)) := rfl
theorem tCons_app {te : TE} {ta : TA} {σ : St} {H : Hp} {Q : List V → Hp → Prop} : tCons te ta σ H Q = te σ H fun x H1 => ta σ H1 fun xs H2 => Q (x :: xs) H2 := rfl
end L2

namespace Y
open PySem L2
def top (i : Nat) : Stmt := PySem.Challenge.pw_yearturned_k20_old_ledgers.main.body.getD i (.Pass ⟨0, 0, 0, 0⟩)
abbrev s_is_whole : Stmt := top 10
abbrev s_is_label : Stmt := top 11
abbrev s_is_amount : Stmt := top 12
abbrev s_is_number : Stmt := top 13
abbrev s_is_deed : Stmt := top 14
abbrev s_OldLine_init : Stmt := inClass (top 16) 0
abbrev s_OldLine_row : Stmt := inClass (top 16) 2
abbrev s_NewLine_init : Stmt := inClass (top 17) 0
abbrev s_NewLine_row : Stmt := inClass (top 17) 1
abbrev s_Ledgers_init : Stmt := inClass (top 18) 0
abbrev s_Ledgers_old_line : Stmt := inClass (top 18) 2
abbrev s_Ledgers_new_line : Stmt := inClass (top 18) 3
abbrev s_Ledgers_rows : Stmt := inClass (top 18) 5
abbrev s_Ledgers_check : Stmt := inClass (top 18) 6
abbrev s_Ledgers_play_deed : Stmt := inClass (top 18) 7
abbrev s_Ledgers_set_field : Stmt := inClass (top 18) 8
abbrev s_Ledgers_write_field : Stmt := inClass (top 18) 9
abbrev s_Ledgers_put_line : Stmt := inClass (top 18) 10
abbrev s_Ledgers_run : Stmt := inClass (top 18) 11
abbrev s_Ledgers_wrongs : Stmt := inClass (top 18) 17
abbrev s_check_deeds : Stmt := top 19
abbrev s_played : Stmt := top 20
abbrev s_play : Stmt := top 21
abbrev s_faults : Stmt := top 22
abbrev s_is_step : Stmt := top 26
abbrev s_Script_init : Stmt := inClass (top 27) 0
abbrev s_Script_steps : Stmt := inClass (top 27) 8
abbrev s_well : Stmt := top 29
abbrev s_draw : Stmt := top 30
abbrev s_label : Stmt := top 31
abbrev s_amount : Stmt := top 32
abbrev s_step : Stmt := top 33
abbrev s_steps : Stmt := top 34
abbrev s_like : Stmt := top 35
abbrev s_old_act : Stmt := top 36
abbrev s_line : Stmt := top 37
abbrev s_law : Stmt := top 38
theorem sc_is_whole : FnScope ["thing"] ["thing"] (defScope s_is_whole) := ⟨rfl, rfl, rfl, by decide +kernel, rfl, by decide +kernel, by decide +kernel⟩
theorem sc_is_label : FnScope ["thing"] ["thing"] (defScope s_is_label) := ⟨rfl, rfl, rfl, by decide +kernel, rfl, by decide +kernel, by decide +kernel⟩
theorem sc_is_amount : FnScope ["thing"] ["thing"] (defScope s_is_amount) := ⟨rfl, rfl, rfl, by decide +kernel, rfl, by decide +kernel, by decide +kernel⟩
theorem sc_is_number : FnScope ["thing"] ["thing"] (defScope s_is_number) := ⟨rfl, rfl, rfl, by decide +kernel, rfl, by decide +kernel, by decide +kernel⟩
theorem sc_is_deed : FnScope ["thing", "word", "rest"] ["thing"] (defScope s_is_deed) := ⟨rfl, rfl, rfl, by decide +kernel, rfl, by decide +kernel, by decide +kernel⟩
theorem sc_OldLine_init : FnScope ["self", "number", "label", "start"] ["self", "number", "label", "start"] (defScope s_OldLine_init) := ⟨rfl, rfl, rfl, by decide +kernel, rfl, by decide +kernel, by decide +kernel⟩
theorem sc_OldLine_row : FnScope ["self"] ["self"] (defScope s_OldLine_row) := ⟨rfl, rfl, rfl, by decide +kernel, rfl, by decide +kernel, by decide +kernel⟩
theorem sc_NewLine_init : FnScope ["self", "number", "label", "start", "source"] ["self", "number", "label", "start", "source"] (defScope s_NewLine_init) := ⟨rfl, rfl, rfl, by decide +kernel, rfl, by decide +kernel, by decide +kernel⟩
theorem sc_NewLine_row : FnScope ["self"] ["self"] (defScope s_NewLine_row) := ⟨rfl, rfl, rfl, by decide +kernel, rfl, by decide +kernel, by decide +kernel⟩
theorem sc_Ledgers_init : FnScope ["self"] ["self"] (defScope s_Ledgers_init) := ⟨rfl, rfl, rfl, by decide +kernel, rfl, by decide +kernel, by decide +kernel⟩
theorem sc_Ledgers_old_line : FnScope ["self", "number"] ["self", "number"] (defScope s_Ledgers_old_line) := ⟨rfl, rfl, rfl, by decide +kernel, rfl, by decide +kernel, by decide +kernel⟩
theorem sc_Ledgers_new_line : FnScope ["self", "number", "found", "line"] ["self", "number"] (defScope s_Ledgers_new_line) := ⟨rfl, rfl, rfl, by decide +kernel, rfl, by decide +kernel, by decide +kernel⟩
theorem sc_Ledgers_rows : FnScope ["self", "line"] ["self"] (defScope s_Ledgers_rows) := ⟨rfl, rfl, rfl, by decide +kernel, rfl, by decide +kernel, by decide +kernel⟩
theorem sc_Ledgers_check : FnScope ["self", "deed", "index", "word", "numbers", "lacking", "number"] ["self", "deed", "index"] (defScope s_Ledgers_check) := ⟨rfl, rfl, rfl, by decide +kernel, rfl, by decide +kernel, by decide +kernel⟩
theorem sc_Ledgers_play_deed : FnScope ["self", "steps", "deed", "word"] ["self", "steps", "deed"] (defScope s_Ledgers_play_deed) := ⟨rfl, rfl, rfl, by decide +kernel, rfl, by decide +kernel, by decide +kernel⟩
theorem sc_Ledgers_set_field : FnScope ["self", "line", "deed"] ["self", "line", "deed"] (defScope s_Ledgers_set_field) := ⟨rfl, rfl, rfl, by decide +kernel, rfl, by decide +kernel, by decide +kernel⟩
theorem sc_Ledgers_write_field : FnScope ["self", "line", "word", "value"] ["self", "line", "word", "value"] (defScope s_Ledgers_write_field) := ⟨rfl, rfl, rfl, by decide +kernel, rfl, by decide +kernel, by decide +kernel⟩
theorem sc_Ledgers_put_line : FnScope ["self", "label", "start", "source"] ["self", "label", "start", "source"] (defScope s_Ledgers_put_line) := ⟨rfl, rfl, rfl, by decide +kernel, rfl, by decide +kernel, by decide +kernel⟩
theorem sc_Ledgers_run : FnScope ["self", "steps", "step", "there", "made", "line", "number"] ["self", "steps"] (defScope s_Ledgers_run) := ⟨rfl, rfl, rfl, by decide +kernel, rfl, by decide +kernel, by decide +kernel⟩
theorem sc_Ledgers_wrongs : FnScope ["self", "index", "found", "there", "line", "numbers", "word"] ["self", "index"] (defScope s_Ledgers_wrongs) := ⟨rfl, rfl, rfl, by decide +kernel, rfl, by decide +kernel, by decide +kernel⟩
theorem sc_check_deeds : FnScope ["deeds", "index", "deed"] ["deeds"] (defScope s_check_deeds) := ⟨rfl, rfl, rfl, by decide +kernel, rfl, by decide +kernel, by decide +kernel⟩
theorem sc_played : FnScope ["script", "deeds", "ledgers", "found", "index", "deed"] ["script", "deeds"] (defScope s_played) := ⟨rfl, rfl, rfl, by decide +kernel, rfl, by decide +kernel, by decide +kernel⟩
theorem sc_play : FnScope ["script", "deeds"] ["script", "deeds"] (defScope s_play) := ⟨rfl, rfl, rfl, by decide +kernel, rfl, by decide +kernel, by decide +kernel⟩
theorem sc_faults : FnScope ["script", "deeds"] ["script", "deeds"] (defScope s_faults) := ⟨rfl, rfl, rfl, by decide +kernel, rfl, by decide +kernel, by decide +kernel⟩
theorem sc_is_step : FnScope ["thing", "word"] ["thing"] (defScope s_is_step) := ⟨rfl, rfl, rfl, by decide +kernel, rfl, by decide +kernel, by decide +kernel⟩
theorem sc_Script_init : FnScope ["self", "steps", "index", "step"] ["self", "steps"] (defScope s_Script_init) := ⟨rfl, rfl, rfl, by decide +kernel, rfl, by decide +kernel, by decide +kernel⟩
theorem sc_Script_steps : FnScope ["self"] ["self"] (defScope s_Script_steps) := ⟨rfl, rfl, rfl, by decide +kernel, rfl, by decide +kernel, by decide +kernel⟩
theorem sc_well : FnScope ["script", "k", "cell"] ["script", "k"] (defScope s_well) := ⟨rfl, rfl, rfl, by decide +kernel, rfl, by decide +kernel, by decide +kernel⟩
theorem sc_draw : FnScope ["well", "many", "drawn", "mixed"] ["well", "many"] (defScope s_draw) := ⟨rfl, rfl, rfl, by decide +kernel, rfl, by decide +kernel, by decide +kernel⟩
theorem sc_label : FnScope ["well", "far", "great"] ["well"] (defScope s_label) := ⟨rfl, rfl, rfl, by decide +kernel, rfl, by decide +kernel, by decide +kernel⟩
theorem sc_amount : FnScope ["well", "far", "great"] ["well"] (defScope s_amount) := ⟨rfl, rfl, rfl, by decide +kernel, rfl, by decide +kernel, by decide +kernel⟩
theorem sc_step : FnScope ["well", "way"] ["well"] (defScope s_step) := ⟨rfl, rfl, rfl, by decide +kernel, rfl, by decide +kernel, by decide +kernel⟩
theorem sc_steps : FnScope ["well", "most", "turn"] ["well", "most"] (defScope s_steps) := ⟨rfl, rfl, rfl, by decide +kernel, rfl, by decide +kernel, by decide +kernel⟩
theorem sc_like : FnScope ["told", "due", "k"] ["told", "due"] (defScope s_like) := ⟨rfl, rfl, rfl, by decide +kernel, rfl, by decide +kernel, by decide +kernel⟩
theorem sc_old_act : FnScope ["well", "many", "way", "number", "other", "some"] ["well", "many"] (defScope s_old_act) := ⟨rfl, rfl, rfl, by decide +kernel, rfl, by decide +kernel, by decide +kernel⟩
theorem sc_line : FnScope ["acts", "number", "adds", "last", "act"] ["acts", "number"] (defScope s_line) := ⟨rfl, rfl, rfl, by decide +kernel, rfl, by decide +kernel, by decide +kernel⟩
theorem sc_law : FnScope ["script", "well", "steps", "acts", "many", "turn", "source", "due", "work", "handed", "told", "number"] ["script"] (defScope s_law) := ⟨rfl, rfl, rfl, by decide +kernel, rfl, by decide +kernel, by decide +kernel⟩
/-- a def of the module, a def of a class, as the top has left them -/
structure Df (K : PySem.W.Frag) (mg : Str → Option Value) (x : Str) (st : Stmt) (ps : List Str) where
  a : Addr
  fd : FuncData
  F : Fun K x x st a fd
  g : mg x = some (.ref a)
  b : Binds K fd ps []
structure Mt (K : PySem.W.Frag) (C : Addr) (m q : Str) (st : Stmt) (ps : List Str) where
  a : Addr
  fd : FuncData
  F : Fun K m q st a fd
  m : Meth K C m a
  b : Binds K fd ps []
theorem Mt.spc {K : PySem.W.Frag} {C : Addr} {m q : Str} {st : Stmt} {ps : List Str} (M : Mt K C m q st ps) : Spc K C m M.a := ⟨M.m.at_, M.m.fn⟩

structure Tx (K : PySem.W.Frag) (mg : Str → Option Value) where
  c_Script : Addr
  g_Script : mg "Script" = some (.ref c_Script)
  c_OldLine : Addr
  g_OldLine : mg "OldLine" = some (.ref c_OldLine)
  c_NewLine : Addr
  g_NewLine : mg "NewLine" = some (.ref c_NewLine)
  c_Ledgers : Addr
  g_Ledgers : mg "Ledgers" = some (.ref c_Ledgers)
  is_whole : Df K mg "is_whole" s_is_whole ["thing"]
  is_label : Df K mg "is_label" s_is_label ["thing"]
  is_amount : Df K mg "is_amount" s_is_amount ["thing"]
  is_number : Df K mg "is_number" s_is_number ["thing"]
  is_deed : Df K mg "is_deed" s_is_deed ["thing"]
  OldLine_init : Mt K c_OldLine "__init__" "OldLine.__init__" s_OldLine_init ["self", "number", "label", "start"]
  OldLine_row : Mt K c_OldLine "row" "OldLine.row" s_OldLine_row ["self"]
  NewLine_init : Mt K c_NewLine "__init__" "NewLine.__init__" s_NewLine_init ["self", "number", "label", "start", "source"]
  NewLine_row : Mt K c_NewLine "row" "NewLine.row" s_NewLine_row ["self"]
  Ledgers_init : Mt K c_Ledgers "__init__" "Ledgers.__init__" s_Ledgers_init ["self"]
  Ledgers_old_line : Mt K c_Ledgers "old_line" "Ledgers.old_line" s_Ledgers_old_line ["self", "number"]
  Ledgers_new_line : Mt K c_Ledgers "new_line" "Ledgers.new_line" s_Ledgers_new_line ["self", "number"]
  Ledgers_rows : Mt K c_Ledgers "rows" "Ledgers.rows" s_Ledgers_rows ["self"]
  Ledgers_check : Mt K c_Ledgers "check" "Ledgers.check" s_Ledgers_check ["self", "deed", "index"]
  Ledgers_play_deed : Mt K c_Ledgers "play_deed" "Ledgers.play_deed" s_Ledgers_play_deed ["self", "steps", "deed"]
  Ledgers_set_field : Mt K c_Ledgers "set_field" "Ledgers.set_field" s_Ledgers_set_field ["self", "line", "deed"]
  Ledgers_write_field : Mt K c_Ledgers "write_field" "Ledgers.write_field" s_Ledgers_write_field ["self", "line", "word", "value"]
  Ledgers_put_line : Mt K c_Ledgers "put_line" "Ledgers.put_line" s_Ledgers_put_line ["self", "label", "start", "source"]
  Ledgers_run : Mt K c_Ledgers "run" "Ledgers.run" s_Ledgers_run ["self", "steps"]
  Ledgers_wrongs : Mt K c_Ledgers "wrongs" "Ledgers.wrongs" s_Ledgers_wrongs ["self", "index"]
  check_deeds : Df K mg "check_deeds" s_check_deeds ["deeds"]
  played : Df K mg "played" s_played ["script", "deeds"]
  play : Df K mg "play" s_play ["script", "deeds"]
  faults : Df K mg "faults" s_faults ["script", "deeds"]
  is_step : Df K mg "is_step" s_is_step ["thing"]
  Script_init : Mt K c_Script "__init__" "Script.__init__" s_Script_init ["self", "steps"]
  Script_steps : Mt K c_Script "steps" "Script.steps" s_Script_steps ["self"]
  well : Df K mg "_law_well" s_well ["script", "k"]
  draw : Df K mg "_law_draw" s_draw ["well", "many"]
  label : Df K mg "_law_label" s_label ["well"]
  amount : Df K mg "_law_amount" s_amount ["well"]
  step : Df K mg "_law_step" s_step ["well"]
  steps : Df K mg "_law_steps" s_steps ["well", "most"]
  like : Df K mg "_law_like" s_like ["told", "due"]
  old_act : Df K mg "_law_old_act" s_old_act ["well", "many"]
  line : Df K mg "_law_line" s_line ["acts", "number"]
  law : Df K mg "law" s_law ["script"]
  cl_Script : Cls K c_Script
  ic_Script : InsI K c_Script
  mk_Script : Mk K c_Script Script_init.a
  na_Script_kept_steps : NoAttr K c_Script "kept_steps"
  cl_OldLine : Cls K c_OldLine
  ic_OldLine : InsI K c_OldLine
  mk_OldLine : Mk K c_OldLine OldLine_init.a
  na_OldLine_number : NoAttr K c_OldLine "number"
  na_OldLine_label : NoAttr K c_OldLine "label"
  na_OldLine_start : NoAttr K c_OldLine "start"
  na_OldLine_moves : NoAttr K c_OldLine "moves"
  na_OldLine_tie : NoAttr K c_OldLine "tie"
  na_OldLine_standing : NoAttr K c_OldLine "standing"
  cl_NewLine : Cls K c_NewLine
  ic_NewLine : InsI K c_NewLine
  mk_NewLine : Mk K c_NewLine NewLine_init.a
  na_NewLine_number : NoAttr K c_NewLine "number"
  na_NewLine_label : NoAttr K c_NewLine "label"
  na_NewLine_start : NoAttr K c_NewLine "start"
  na_NewLine_source : NoAttr K c_NewLine "source"
  na_NewLine_moves : NoAttr K c_NewLine "moves"
  na_NewLine_tie : NoAttr K c_NewLine "tie"
  na_NewLine_typed : NoAttr K c_NewLine "typed"
  cl_Ledgers : Cls K c_Ledgers
  ic_Ledgers : InsI K c_Ledgers
  mk_Ledgers : Mk K c_Ledgers Ledgers_init.a
  na_Ledgers_elder : NoAttr K c_Ledgers "elder"
  na_Ledgers_later : NoAttr K c_Ledgers "later"
  na_Ledgers_ever : NoAttr K c_Ledgers "ever"
  na_Ledgers_fresh : NoAttr K c_Ledgers "fresh"
  na_Ledgers_ahead : NoAttr K c_Ledgers "ahead"
  ne_Script_OldLine : c_Script ≠ c_OldLine
  ne_Script_NewLine : c_Script ≠ c_NewLine
  ne_Script_Ledgers : c_Script ≠ c_Ledgers
  ne_OldLine_NewLine : c_OldLine ≠ c_NewLine
  ne_OldLine_Ledgers : c_OldLine ≠ c_Ledgers
  ne_NewLine_Ledgers : c_NewLine ≠ c_Ledgers
  a_STEPS : Addr
  g_STEPS : mg "STEPS" = some (.ref a_STEPS)
  d_STEPS : ∀ H, Dp K H (.ref a_STEPS) (.tuple [(.tuple [(.str "make"), (.str "all")]), (.tuple [(.str "make"), (.str "standing")]), (.tuple [(.str "start"), (.str "new")]), (.tuple [(.str "start"), (.str "all")]), (.tuple [(.str "start"), (.str "free")]), (.tuple [(.str "label"), (.str "new")]), (.tuple [(.str "label"), (.str "all")]), (.tuple [(.str "label"), (.str "free")]), (.tuple [(.str "tie"), (.str "new")]), (.tuple [(.str "tie"), (.str "all")]), (.tuple [(.str "tie"), (.str "free")]), (.tuple [(.str "drop")])])
  t_MOST_STEPS : Tok
  g_MOST_STEPS : mg "MOST_STEPS" = some (.int 12 t_MOST_STEPS)
  t_MOST_LABEL : Tok
  g_MOST_LABEL : mg "MOST_LABEL" = some (.int 999999999999999999999999999999 t_MOST_LABEL)
  t_MOST_AMOUNT : Tok
  g_MOST_AMOUNT : mg "MOST_AMOUNT" = some (.int 1000000000000 t_MOST_AMOUNT)
  t_MOST_NUMBER : Tok
  g_MOST_NUMBER : mg "MOST_NUMBER" = some (.int 1000000000 t_MOST_NUMBER)
  b_len : mg "len" = none
  b_isinstance : mg "isinstance" = none
  b_int : mg "int" = none
  b_bool : mg "bool" = none
  b_str : mg "str" = none
  b_tuple : mg "tuple" = none
  b_list : mg "list" = none
  b_all : mg "all" = none
  b_max : mg "max" = none
  b_min : mg "min" = none
  b_abs : mg "abs" = none
  b_range : mg "range" = none
  b_enumerate : mg "enumerate" = none
  kb_play_1 : KBn K play.fd ["script", "deeds"] 1 ["deeds"] (fun us ws => us ++ ws) (fun vs zs => vs ++ zs)
end Y
namespace Y
open PySem L2
local macro_rules | `(tactic| walk_at "y") => `(tactic| repeat (first | refine ⟨_, rfl, ?_⟩ | refine ⟨_, _, rfl, rfl, ?_⟩))
theorem iteB {A B : Prop} {c : Bool} (h1 : c = true → A) (h2 : c = false → B) : if c = true then A else B := by
  cases c with
  | true => exact h1 rfl
  | false => rw [if_neg (by decide)]; exact h2 rfl
abbrev T7 : List String := ["NoneType", "bool", "int", "str", "list", "tuple", "dict"]
def STEPSD : List PyData := [.tuple [.str "make", .str "all"], .tuple [.str "make", .str "standing"], .tuple [.str "start", .str "new"], .tuple [.str "start", .str "all"], .tuple [.str "start", .str "free"], .tuple [.str "label", .str "new"], .tuple [.str "label", .str "all"], .tuple [.str "label", .str "free"], .tuple [.str "tie", .str "new"], .tuple [.str "tie", .str "all"], .tuple [.str "tie", .str "free"], .tuple [.str "drop"]]
def isStepD : PyData → Bool
  | .tuple ds => ds.all (fun d => isTy (tyD d) "str") && STEPSD.any fun z => PyData.eqv z (.tuple ds)
  | _ => false
theorem step_is : ∀ d ∈ STEPSD, isStepD d = true ∧ SeqAt.shaped d = true ∧ imm d = true ∧ PyData.eqv d d = true := by
  intro d hd
  simp only [STEPSD, List.mem_cons, List.not_mem_nil, or_false] at hd
  rcases hd with rfl | rfl | rfl | rfl | rfl | rfl | rfl | rfl | rfl | rfl | rfl | rfl <;> decide +kernel
/-- a row of steps -/
structure Row (ds : List PyData) : Prop where
  st : ∀ d ∈ ds, d ∈ STEPSD
  len : ds.length ≤ 12
theorem imm_all : ∀ {ds : List PyData}, (∀ d ∈ ds, imm d = true) → immAll ds = true
  | [], _ => rfl
  | d :: ds, h => by
    simp only [immAll, Bool.and_eq_true]
    exact ⟨h d (by simp), imm_all (ds := ds) fun x hx => h x (List.mem_cons_of_mem d hx)⟩
theorem Row.imm {ds : List PyData} (r : Row ds) : imm (.tuple ds) = true := by
  show immAll ds = true
  exact imm_all fun d hd => (step_is d (r.st d hd)).2.2.1
theorem stepsd_shaped : SeqAt.shaped (.tuple STEPSD) = true := by decide +kernel
theorem canLay_all : ∀ {ds : List PyData}, (∀ d ∈ ds, SeqAt.shaped d = true) → PyData.canLayAll0 ds = true
  | [], _ => by simp [PyData.canLayAll0]
  | d :: ds, h => by
    have h1 := h d (by simp)
    simp only [SeqAt.shaped, Bool.and_eq_true] at h1
    simp [PyData.canLayAll0, h1.1, canLay_all (ds := ds) fun x hx => h x (List.mem_cons_of_mem d hx)]
theorem step_depth : ∀ d ∈ STEPSD, d.depth ≤ 1 := by
  intro d hd
  simp only [STEPSD, List.mem_cons, List.not_mem_nil, or_false] at hd
  rcases hd with rfl | rfl | rfl | rfl | rfl | rfl | rfl | rfl | rfl | rfl | rfl | rfl <;> decide +kernel
theorem depth_all {n : Nat} : ∀ {ds : List PyData}, (∀ d ∈ ds, d.depth ≤ n) → PyData.depthAll ds ≤ n
  | [], _ => by simp [PyData.depthAll]
  | d :: ds, h => by
    have h1 := h d (by simp)
    have h2 := depth_all (ds := ds) fun x hx => h x (List.mem_cons_of_mem d hx)
    simp only [PyData.depthAll]
    omega
theorem row_shaped {ds : List PyData} (h : ∀ d ∈ ds, d ∈ STEPSD) : SeqAt.shaped (.tuple ds) = true := by
  have h1 := depth_all fun d hd => step_depth d (h d hd)
  have h2 : PyData.depth (.tuple ds) ≤ 64 := by simp only [PyData.depth]; omega
  show (PyData.canLay0 (.tuple ds) && decide (PyData.depth (.tuple ds) ≤ 64)) = true
  rw [Bool.and_eq_true]
  exact ⟨by simp only [PyData.canLay0]; exact canLay_all fun d hd => (step_is d (h d hd)).2.1, decide_eq_true h2⟩
/-- a Script's fields -/
def kf (v : V) : List (Str × V) := putF "kept_steps" v []
theorem kf_get (v : V) : (kf v).lookup ("kept_steps" : Str) = some v := by
  unfold kf
  rw [lookup_putF, if_pos rfl]
theorem kf_no (v : V) {m : Str} (h : ¬ m = "kept_steps") : (kf v).lookup m = none := by
  unfold kf
  rw [lookup_putF, if_neg h]
  all_goals rfl
/-- a Script with the steps ds stands at a -/
def ScrAt (K : PySem.W.Frag) (C : Addr) (H : Hp) (a : Addr) (ds : List PyData) : Prop := ∃ dx v, H a = some (.ins C dx (kf v)) ∧ Dp K H v (.tuple ds)
theorem ScrAt.same {K : PySem.W.Frag} {C : Addr} {H H' : Hp} {a : Addr} {ds : List PyData} (s : Same H H') (h : ScrAt K C H a ds) : ScrAt K C H' a ds := by
  obtain ⟨dx, v, h1, h2⟩ := h
  exact ⟨dx, v, s _ _ h1, s.dp h2⟩
theorem ScrAt.but {K : PySem.W.Frag} {C p : Addr} {H H' : Hp} {a : Addr} {ds : List PyData} (s : But p H H') (n : a ≠ p) (r : Row ds) (h : ScrAt K C H a ds) : ScrAt K C H' a ds := by
  obtain ⟨dx, v, h1, h2⟩ := h
  exact ⟨dx, v, s.keep _ _ h1 n, s.dp r.imm h2⟩
theorem iteF' {A B : Prop} {c : Bool} (h : c = false) (hb : B) : if c = true then A else B := by
  rw [h]; exact iteF hb
theorem iteT' {A B : Prop} {c : Bool} (h : c = true) (hb : A) : if c = true then A else B := by
  rw [h]; exact iteT hb
theorem step_len : ∀ ds : List PyData, .tuple ds ∈ STEPSD → ds.length ≤ 1000 := by
  intro ds hd
  simp only [STEPSD, List.mem_cons, List.not_mem_nil, or_false, PyData.tuple.injEq] at hd
  rcases hd with rfl | rfl | rfl | rfl | rfl | rfl | rfl | rfl | rfl | rfl | rfl | rfl <;> decide
def spWhole (K : PySem.W.Frag) : Sp := fun vs H Q _ => ∃ (v : V) (t : String), vs = [v] ∧ TyX K H v (.type t) ∧ t ∈ T7 ∧ Q (.bl (t == "int")) H
def spIsStep (K : PySem.W.Frag) : Sp := fun vs H Q _ => ∃ v : V, vs = [v] ∧
  ((∃ d, Dp K H v d ∧ SeqAt.shaped d = true ∧ (∀ ds, d = .tuple ds → ds.length ≤ 1000) ∧ ∀ H', Same H H' → Q (.bl (isStepD d)) H') ∨ ∃ t, TyX K H v (.type t) ∧ t ∈ T7 ∧ t ≠ "tuple" ∧ Q (.bl false) H)
def spInit (K : PySem.W.Frag) (C : Addr) : Sp := fun vs H Q _ => ∃ (x dx : Addr) (v : V) (ds : List PyData), vs = [.ref x, v] ∧ H x = some (.ins C dx []) ∧ Dp K H v (.tuple ds) ∧ Row ds ∧
  ∀ H', H' x = some (.ins C dx (kf v)) → (∀ b o, H b = some o → b ≠ x → H' b = some o) → Q .non H'
def spSteps (C : Addr) : Sp := fun vs H Q _ => ∃ (a dx : Addr) (v : V), vs = [.ref a] ∧ H a = some (.ins C dx (kf v)) ∧ Q v H
def spLen (K : PySem.W.Frag) (C : Addr) : Sp := fun vs H Q _ => ∃ (a : Addr) (ds : List PyData), vs = [.ref a] ∧ ScrAt K C H a ds ∧ Q (.int ds.length) H
def spHas (K : PySem.W.Frag) (C : Addr) : Sp := fun vs H Q _ => ∃ (a : Addr) (ds : List PyData) (v : V) (t : String), vs = [.ref a, v] ∧ ScrAt K C H a ds ∧ TyX K H v (.type t) ∧ t ∈ T7 ∧
  (t ≠ "int" → Q (.bl false) H) ∧ ∀ i, v = .int i → Q (.bl (decide (0 ≤ i ∧ i < (ds.length : Int)))) H
/-- an index that is there -/
def spGet (K : PySem.W.Frag) (C : Addr) : Sp := fun vs H Q _ => ∃ (a : Addr) (ds : List PyData) (i : Nat) (d : PyData), vs = [.ref a, .int i] ∧ ScrAt K C H a ds ∧ ds[i]? = some d ∧ ∀ v, Dp K H v d → Q v H
def spIn (K : PySem.W.Frag) (C : Addr) : Sp := fun vs H Q _ => ∃ (a : Addr) (ds : List PyData) (v : V), vs = [.ref a, v] ∧ ScrAt K C H a ds ∧ (∀ d ∈ ds, d ∈ STEPSD) ∧
  ((∃ d, Dp K H v d ∧ SeqAt.shaped d = true ∧ (∀ ds, d = .tuple ds → ds.length ≤ 1000) ∧ ∀ H', Same H H' → Q (.bl (isStepD d && ds.any fun z => PyData.eqv z d)) H') ∨ ∃ t, TyX K H v (.type t) ∧ t ∈ T7 ∧ t ≠ "tuple" ∧ Q (.bl false) H)
section
variable {P : Program} {w : World} {K : PySem.W.Frag} {mg : Str → Option Value} {base : Heap}
theorem ok_is_whole (T : Tx K mg) : FnOk P w K mg base CX0 1 T.is_whole.a T.is_whole.fd ["thing"] (spWhole K) := by
  refine T.is_whole.F.ok sc_is_whole (fun vs H Q E h => by obtain ⟨v, t, rfl, _⟩ := h; rfl) (fun cdv A outer s H vs Q E hr h => ?_)
  obtain ⟨v, t, rfl, ty, ht, q⟩ := h
  refine ⟨_, (pss_one (ps_ret (pe_and (pe_callB (call_isDK K) (by rfl) T.b_isinstance (by decide +kernel) (pa_cons (pv 0) (pa_cons (pe_bltn (v := .ty "int") (by rfl) T.b_int (by decide +kernel) rfl) pa_nil))) (pe_one (pe_not (pe_callB (call_isDK K) (by rfl) T.b_isinstance (by decide +kernel) (pa_cons (pv 0) (pa_cons (pe_bltn (v := .ty "bool") (by rfl) T.b_bool (by decide +kernel) rfl) pa_nil)))))))), ?_⟩
  refine ⟨_, rfl, v, t, "int", rfl, ty, ht, by decide, _, rfl, iteB (fun c => ?_) (fun c => ?_)⟩
  · refine ⟨_, rfl, v, t, "bool", rfl, ty, ht, by decide, _, rfl, ?_⟩
    have e : (!isTy t "bool") = (t == "int") := by
      simp only [T7, List.mem_cons, List.not_mem_nil, or_false] at ht
      rcases ht with rfl | rfl | rfl | rfl | rfl | rfl | rfl <;> first | rfl | exact absurd c (by decide) | decide
    show Q (.bl (!isTy t "bool")) H
    rw [e]; exact q
  · have e : (t == "int") = false := by
      simp only [T7, List.mem_cons, List.not_mem_nil, or_false] at ht
      rcases ht with rfl | rfl | rfl | rfl | rfl | rfl | rfl <;> first | rfl | exact absurd c (by decide) | decide
    show Q (.bl false) H
    rw [← e]; exact q
theorem ok_is_step (T : Tx K mg) : FnOk P w K mg base CX0 1 T.is_step.a T.is_step.fd ["thing"] (spIsStep K) := by
  refine T.is_step.F.ok sc_is_step (fun vs H Q E h => by obtain ⟨v, rfl, _⟩ := h; rfl) (fun cdv A outer s H vs Q E hr h => ?_)
  obtain ⟨v, rfl, h⟩ := h
  refine ⟨_, (pss_one (ps_ret (pe_and (pe_callB (call_isDK K) (by rfl) T.b_isinstance (by decide +kernel) (pa_cons (pv 0) (pa_cons (pe_bltn (v := .ty "tuple") (by rfl) T.b_tuple (by decide +kernel) rfl) pa_nil))) (pe_and (pe_callB (cr_allK K rfl) (by rfl) T.b_all (by decide +kernel) (pa_cons (pe_lc (own := [("word", 1)]) (g := (gName 1)) (tt := tYes) rfl sc_is_step.nd (pi_tupK K (pv 0)) (blkOk_by (N := ["thing", "word"]) (sc := defScope s_is_step) (by decide +kernel)) (fun _ _ _ _ _ => pg_name (i := 1) sc_is_step.nd rfl (Or.inl rfl)) (fun _ _ _ _ _ => pts_nil) (fun _ _ _ _ _ => (pe_callB (call_isDK K) (by rfl) T.b_isinstance (by decide +kernel) (pa_cons (pv 1) (pa_cons (pe_bltn (v := .ty "str") (by rfl) T.b_str (by decide +kernel) rfl) pa_nil))))) pa_nil)) (pe_one (pe_cmpR (op_inTDK K (hu65 hr)) (pv 0) (pe_glob (v := .ref T.a_STEPS) rfl T.g_STEPS rfl) (by rfl))))))), ?_⟩
  rcases h with ⟨d, hd, sh, hl, q⟩ | ⟨t, ty, ht, hn, q⟩
  · refine ⟨_, rfl, v, tyD d, "tuple", rfl, hd.ty, tyD_mem d, by decide, _, rfl, iteB (fun c => ?_) (fun c => ?_)⟩
    · obtain ⟨ds, rfl⟩ : ∃ ds, d = .tuple ds := by
        cases d <;> first | exact ⟨_, rfl⟩ | (simp [tyD, isTy] at c)
      obtain ⟨a, xs, rfl, hx, hxs⟩ := hd.tup_inv
      have hlen := hxs.length
      have hl := hl ds rfl
      -- [isinstance(word, str) for word in thing]
      refine ⟨_, rfl, a, rfl, ⟨_, hx⟩, fun D nD => ?_⟩
      refine lc_tup (K := K) (a := a) (xs := xs) (fun i H' => Same H H' ∧ H' D = some (.lst ((ds.take i).map fun d => .bl (isTy (tyD d) "str")))) ⟨Same.new nD, by simp [upd_same]⟩ (fun i H' _ ⟨s, _⟩ => s.sqT hx) ?_ ?_
      · rintro i y H' hi ⟨s, hD⟩
        obtain ⟨dd, h1, h2⟩ := hxs.get' hi
        refine ⟨rfl, _, rfl, y, tyD dd, "str", rfl, (s.dp h2).ty, tyD_mem dd, by decide, _, hD, ?_, ?_⟩
        · refine small1000 ?_
          rw [List.length_map, List.length_take]; omega
        · refine ⟨s.mut nD, ?_⟩
          rw [upd_same, List.take_add_one, h1]
          simp
      · rintro H' ⟨s, hD⟩
        rw [hlen, List.take_length] at hD
        refine ⟨D, ds.map fun d => isTy (tyD d) "str", rfl, SqL.of (by rw [hD, List.map_map]; rfl), _, rfl, iteB (fun c2 => ?_) (fun c2 => ?_)⟩
        · -- thing in STEPS
          refine ⟨_, rfl, .tuple ds, STEPSD, s.dp hd, T.d_STEPS _, sh, stepsd_shaped, ?_⟩
          have e : isStepD (.tuple ds) = STEPSD.any fun z => PyData.eqv z (.tuple ds) := by
            have : (ds.all fun d => isTy (tyD d) "str") = true := by simpa [List.all_map] using c2
            simp [isStepD, this]
          have := q H' s
          rw [e] at this; exact this
        · have e : isStepD (.tuple ds) = false := by
            have : (ds.all fun d => isTy (tyD d) "str") = false := by simpa [List.all_map] using c2
            simp [isStepD, this]
          have := q H' s
          rw [e] at this; exact this
    · have e : isStepD d = false := by cases d <;> first | rfl | (simp [tyD, isTy] at c)
      have := q H (Same.refl H)
      rw [e] at this; exact this
  · refine ⟨_, rfl, v, t, "tuple", rfl, ty, ht, by decide, _, rfl, iteB (fun c => ?_) (fun c => q)⟩
    exfalso
    simp [isTy] at c
    exact hn c
theorem ok_Script_init (T : Tx K mg) : FnOk P w K mg base CX0 3 T.Script_init.a T.Script_init.fd ["self", "steps"] (spInit K T.c_Script) := by
  have G_is_step := ok_is_step (P := P) (w := w) (base := base) T
  refine T.Script_init.F.ok sc_Script_init (fun vs H Q E h => by obtain ⟨x, dx, v, ds, rfl, _⟩ := h; rfl) (fun cdv A outer s H vs Q E hr h => ?_)
  obtain ⟨x, dx, v, ds, rfl, hx, hd, r, q⟩ := h
  obtain ⟨a, xs, rfl, hq, hxs⟩ := hd.tup_inv
  have hlen := hxs.length
  have hl := r.len
  refine ⟨_, (pss_cons (ps_if (pt_not (pt_val (pe_callB (call_isDK K) (by rfl) T.b_isinstance (by decide +kernel) (pa_cons (pv 1) (pa_cons (pe_bltn (v := .ty "tuple") (by rfl) T.b_tuple (by decide +kernel) rfl) pa_nil)))))
  (pss_one ps_never)
  pss_nil)
  (pss_cons (ps_for PassesOwn.never rfl (pi_enumT (by rfl) T.b_enumerate (pa_cons (pv 1) pa_nil)) (pg_tupK K rfl (pgs_cons (pg_name (i := 2) sc_Script_init.nd rfl (Or.inl rfl)) (pgs_cons (pg_name (i := 3) sc_Script_init.nd rfl (Or.inl rfl)) pgs_nil)))
  (pss_one (ps_if (PW.pt (pw_or (pt_cmpR op_ge (pv 2) (pe_glob (v := .int 12) rfl T.g_MOST_STEPS ⟨_, rfl⟩) (nomark _)) (pw_or1 (pt_not (pt_val (pe_call G_is_step (hr.mono (by first | decide | omega)) rfl T.is_step.g T.is_step.F.kp T.is_step.b .nil pass0 (pa_cons (pv 3) pa_nil)))))))
  (pss_one ps_never)
  pss_nil)))
  (pss_one (ps_fldK K (pv 0) (pv 1) rfl)))), ?_⟩
  refine ⟨_, rfl, .ref a, "tuple", "tuple", rfl, hd.ty, by decide, by decide, _, rfl, ?_⟩
  refine iteF ?_
  -- for index, step in enumerate(steps)
  refine ⟨_, rfl, a, xs, rfl, hq, for_enumT (K := K) (a := a) (xs := xs) (fun i σ H' => Same H H' ∧ ∃ v2 v3, σ = [some (.ref x), some (.ref a), v2, v3]) ⟨Same.refl H, none, none, rfl⟩ (fun i σ H' _ ⟨s, _⟩ => s.sqT hq) ?_ ?_⟩
  · rintro i y T0 σ H' hi ⟨s, v2, v3, rfl⟩ nT
    obtain ⟨dd, h1, h2⟩ := hxs.get' hi
    have hst := r.st dd (List.mem_of_getElem? h1)
    have s2 : Same H (upd H' T0 (.tup [.int (i : Nat), y])) := s.add nT
    refine ⟨T0, _, rfl, SqT.of upd_same, rfl, _, _, rfl, _, _, rfl, rfl, ?_⟩
    refine ⟨_, rfl, _, _, rfl, rfl, _, rfl, iteF' ?_ ?_⟩
    · simp only [decide_eq_false_iff_not]
      have := (List.getElem?_eq_some_iff.mp h1).1
      omega
    · refine ⟨_, rfl, y, rfl, .inl ⟨dd, s2.dp h2, (step_is dd hst).2.1, ?_, fun H2 s3 => ⟨_, rfl, ?_⟩⟩⟩
      · rintro ds' rfl
        have := step_depth _ hst
        exact step_len _ hst
      · rw [(step_is dd hst).1]
        exact ⟨s2.trans s3, _, _, rfl⟩
  · rintro σ H' ⟨s, v2, v3, rfl⟩
    refine ⟨_, rfl, _, rfl, x, T.c_Script, dx, [], rfl, s _ _ hx, T.cl_Script, T.na_Script_kept_steps, by decide, ?_⟩
    exact q _ upd_same fun b o e n => by rw [upd_ne n]; exact s _ _ e
theorem ok_Script_steps (T : Tx K mg) : FnOk P w K mg base CX0 1 T.Script_steps.a T.Script_steps.fd ["self"] (spSteps T.c_Script) := by
  refine T.Script_steps.F.ok sc_Script_steps (fun vs H Q E h => by obtain ⟨a, dx, v, rfl, _⟩ := h; rfl) (fun cdv A outer s H vs Q E hr h => ?_)
  obtain ⟨a, dx, v, rfl, hx, q⟩ := h
  refine ⟨_, (pss_one (ps_ret (pe_fldK K (pv 0) rfl))), ?_⟩
  exact ⟨_, rfl, a, T.c_Script, dx, _, _, rfl, hx, T.cl_Script, T.na_Script_kept_steps, kf_get v, q⟩
end
end Y

/-! # names.py: labels, amounts, numbers, deeds -/
namespace Y
open PySem L2
local macro_rules | `(tactic| walk_at "n") => `(tactic| repeat (first | refine ⟨_, rfl, ?_⟩ | refine ⟨_, _, rfl, rfl, ?_⟩))
def isLabelD : PyData → Bool
  | .int i => decide (0 ≤ i ∧ i ≤ 999999999999999999999999999999)
  | _ => false
def isAmountD : PyData → Bool
  | .int i => decide (-1000000000000 ≤ i ∧ i ≤ 1000000000000)
  | _ => false
def isNumberD : PyData → Bool
  | .int i => decide (1 ≤ i ∧ i ≤ 1000000000)
  | _ => false
def isNoneD : PyData → Bool
  | .none => true
  | _ => false
def spNm (K : PySem.W.Frag) (f : PyData → Bool) : Sp := fun vs H Q _ => ∃ (v : V) (d : PyData), vs = [v] ∧ Dp K H v d ∧ Q (.bl (f d)) H
/-- what comes behind a deed's word -/
def isRestD (w : Str) (r : List PyData) : Bool :=
  if w = "run" then r.isEmpty else
  if w = "end" ∨ w = "own" then decide (r.length = 1) && (if w = "end" then isNumberD (r.getD 0 .none) else isLabelD (r.getD 0 .none)) else
  if r.length ≠ 2 then false else
  if w = "add" then isLabelD (r.getD 0 .none) && isAmountD (r.getD 1 .none) else
  if isNumberD (r.getD 0 .none) = false then false else
  if w = "label" ∨ w = "write label" then isLabelD (r.getD 1 .none) else
  if w = "moves" ∨ w = "write moves" then isAmountD (r.getD 1 .none) else
  if w = "tie" ∨ w = "write tie" then isNoneD (r.getD 1 .none) || isNumberD (r.getD 1 .none) else false
theorem eqv_any (w : Str) : ∀ ws : List Str, ((ws.map PyData.str).any fun z => PyData.eqv z (.str w)) = decide (w ∈ ws)
  | [] => rfl
  | a :: ws => by
    rw [List.map_cons, List.any_cons, eqv_any w ws]
    have : PyData.eqv (.str a) (.str w) = (a == w) := by simp only [PyData.eqv]
    rw [this]
    by_cases e : a = w
    · subst e; simp
    · have e' : ¬ w = a := fun z => e z.symm
      simp [e, e']
/-- w in ("a", "b") -/
theorem inS {K : PySem.W.Frag} {te tv : TE} {σ : St} {H : Hp} {w : Str} {ws : List Str} {Q : Bool → Hp → Prop} (hv : Gv K tv σ H (.str w)) (ht : Gv K te σ H (.tuple (ws.map .str))) (hw : SeqAt.shaped (.str w) = true) (hs : SeqAt.shaped (.tuple (ws.map .str)) = true) (q : ∀ H', Same H H' → Q (decide (w ∈ ws)) H') :
    tTest (tOp (rInTD K) tv te) σ H Q := by
  refine hv H (Same.refl H) _ fun v H1 s1 h1 => ht H1 s1 _ fun u H2 s2 h2 => ⟨.str w, ws.map .str, s2.dp h1, h2, hw, hs, _, rfl, ?_⟩
  rw [eqv_any]
  exact q H2 (s1.trans s2)
theorem nmAt {K : PySem.W.Frag} {te : TE} {σ : St} {H : Hp} {d : PyData} {f : PyData → Bool} {Q : VK} (h : Gv K te σ H d) (q : ∀ H', Same H H' → Q (.bl (f d)) H') : tCall (spNm K f) [] E0 (tCons te tNil) σ H Q :=
  h H (Same.refl H) _ fun v H1 s1 h1 => ⟨v, d, rfl, h1, q H1 s1⟩
theorem atI_getD {r : List PyData} {i : Nat} (h : i < r.length) : atI r (i : Int) = some (r.getD i .none) := by
  refine atI_nat ?_
  rw [List.getD_eq_getElem?_getD, List.getElem?_eq_getElem h]; rfl
theorem eqv_empty (r : List PyData) : PyData.eqv (.tuple r) (.tuple []) = r.isEmpty := by
  cases r <;> simp only [PyData.eqv, PyData.eqvAll, List.isEmpty]
theorem shaped_cons {d : PyData} {r : List PyData} (h : SeqAt.shaped (.tuple (d :: r)) = true) : SeqAt.shaped d = true ∧ SeqAt.shaped (.tuple r) = true := by
  have h : (PyData.canLay0 (.tuple (d :: r)) && decide (PyData.depth (.tuple (d :: r)) ≤ 64)) = true := h
  have g : (PyData.canLay0 d && decide (PyData.depth d ≤ 64)) = true ∧ (PyData.canLay0 (.tuple r) && decide (PyData.depth (.tuple r) ≤ 64)) = true := by
    rw [Bool.and_eq_true] at h
    obtain ⟨h1, h3⟩ := h
    have h3 := of_decide_eq_true h3
    simp only [PyData.canLay0, PyData.canLayAll0, Bool.and_eq_true] at h1
    simp only [PyData.depth, PyData.depthAll] at h3
    refine ⟨?_, ?_⟩
    · rw [Bool.and_eq_true, decide_eq_true_eq]
      exact ⟨h1.1, by omega⟩
    · rw [Bool.and_eq_true, decide_eq_true_eq]
      refine ⟨by simp only [PyData.canLay0]; exact h1.2, ?_⟩
      simp only [PyData.depth]
      omega
  exact g
def isDeedD : PyData → Bool
  | .tuple (.str w :: rest) => isRestD w rest
  | _ => false
def spDeed (K : PySem.W.Frag) : Sp := fun vs H Q _ => ∃ (v : V) (d : PyData), vs = [v] ∧ Dp K H v d ∧ SeqAt.shaped d = true ∧ (∀ ds, d = .tuple ds → ds.length ≤ 1000) ∧ ∀ H', Same H H' → Q (.bl (isDeedD d)) H'
section
variable {P : Program} {w : World} {K : PySem.W.Frag} {mg : Str → Option Value} {base : Heap}
theorem ok_is_label (T : Tx K mg) : FnOk P w K mg base CX0 2 T.is_label.a T.is_label.fd ["thing"] (spNm K isLabelD) := by
  have G_is_whole := ok_is_whole (P := P) (w := w) (base := base) T
  refine T.is_label.F.ok sc_is_label (fun vs H Q E h => by obtain ⟨v, d, rfl, _⟩ := h; rfl) (fun cdv A outer s H vs Q E hr h => ?_)
  obtain ⟨v, d, rfl, hd, q⟩ := h
  refine ⟨_, (pss_one (ps_ret (pe_and (pe_call G_is_whole (hr.mono (by first | decide | omega)) rfl T.is_whole.g T.is_whole.F.kp T.is_whole.b .nil pass0 (pa_cons (pv 0) pa_nil)) (pe_one (pe_chain op_le op_le pe_int (pv 0) (pe_glob (v := .int 999999999999999999999999999999) rfl T.g_MOST_LABEL ⟨_, rfl⟩)))))), ?_⟩
  refine ⟨_, rfl, v, tyD d, rfl, hd.ty, tyD_mem d, _, rfl, iteB (fun c => ?_) (fun c => ?_)⟩
  · obtain ⟨i, rfl⟩ : ∃ i, d = .int i := by
      cases d <;> first | exact ⟨_, rfl⟩ | (simp [tyD] at c)
    obtain rfl := hd.int_inv
    refine ⟨_, rfl, _, _, rfl, rfl, _, rfl, iteB (fun c => ?_) (fun c => ?_)⟩
    · have c := of_decide_eq_true c
      refine ⟨_, _, rfl, rfl, ?_⟩
      simpa [isLabelD, c] using q
    · have c := of_decide_eq_false c
      simpa [isLabelD, c] using q
  · have e : isLabelD d = false := by
      cases d <;> first | rfl | (simp [tyD] at c)
    rw [e] at q; exact q
theorem ok_is_amount (T : Tx K mg) : FnOk P w K mg base CX0 2 T.is_amount.a T.is_amount.fd ["thing"] (spNm K isAmountD) := by
  have G_is_whole := ok_is_whole (P := P) (w := w) (base := base) T
  refine T.is_amount.F.ok sc_is_amount (fun vs H Q E h => by obtain ⟨v, d, rfl, _⟩ := h; rfl) (fun cdv A outer s H vs Q E hr h => ?_)
  obtain ⟨v, d, rfl, hd, q⟩ := h
  refine ⟨_, (pss_one (ps_ret (pe_and (pe_call G_is_whole (hr.mono (by first | decide | omega)) rfl T.is_whole.g T.is_whole.F.kp T.is_whole.b .nil pass0 (pa_cons (pv 0) pa_nil)) (pe_one (pe_chain op_le op_le (pe_un un_neg (pe_glob (v := .int 1000000000000) rfl T.g_MOST_AMOUNT ⟨_, rfl⟩)) (pv 0) (pe_glob (v := .int 1000000000000) rfl T.g_MOST_AMOUNT ⟨_, rfl⟩)))))), ?_⟩
  refine ⟨_, rfl, v, tyD d, rfl, hd.ty, tyD_mem d, _, rfl, iteB (fun c => ?_) (fun c => ?_)⟩
  · obtain ⟨i, rfl⟩ : ∃ i, d = .int i := by
      cases d <;> first | exact ⟨_, rfl⟩ | (simp [tyD] at c)
    obtain rfl := hd.int_inv
    refine ⟨_, rfl, _, rfl, _, _, rfl, rfl, _, rfl, iteB (fun c => ?_) (fun c => ?_)⟩
    · have c := of_decide_eq_true c
      refine ⟨_, _, rfl, rfl, ?_⟩
      simpa [isAmountD, c] using q
    · have c := of_decide_eq_false c
      simpa [isAmountD, c] using q
  · have e : isAmountD d = false := by
      cases d <;> first | rfl | (simp [tyD] at c)
    rw [e] at q; exact q
theorem ok_is_number (T : Tx K mg) : FnOk P w K mg base CX0 2 T.is_number.a T.is_number.fd ["thing"] (spNm K isNumberD) := by
  have G_is_whole := ok_is_whole (P := P) (w := w) (base := base) T
  refine T.is_number.F.ok sc_is_number (fun vs H Q E h => by obtain ⟨v, d, rfl, _⟩ := h; rfl) (fun cdv A outer s H vs Q E hr h => ?_)
  obtain ⟨v, d, rfl, hd, q⟩ := h
  refine ⟨_, (pss_one (ps_ret (pe_and (pe_call G_is_whole (hr.mono (by first | decide | omega)) rfl T.is_whole.g T.is_whole.F.kp T.is_whole.b .nil pass0 (pa_cons (pv 0) pa_nil)) (pe_one (pe_chain op_le op_le pe_int (pv 0) (pe_glob (v := .int 1000000000) rfl T.g_MOST_NUMBER ⟨_, rfl⟩)))))), ?_⟩
  refine ⟨_, rfl, v, tyD d, rfl, hd.ty, tyD_mem d, _, rfl, iteB (fun c => ?_) (fun c => ?_)⟩
  · obtain ⟨i, rfl⟩ : ∃ i, d = .int i := by
      cases d <;> first | exact ⟨_, rfl⟩ | (simp [tyD] at c)
    obtain rfl := hd.int_inv
    refine ⟨_, rfl, _, _, rfl, rfl, _, rfl, iteB (fun c => ?_) (fun c => ?_)⟩
    · have c := of_decide_eq_true c
      refine ⟨_, _, rfl, rfl, ?_⟩
      simpa [isNumberD, c] using q
    · have c := of_decide_eq_false c
      simpa [isNumberD, c] using q
  · have e : isNumberD d = false := by
      cases d <;> first | rfl | (simp [tyD] at c)
    rw [e] at q; exact q
theorem ok_is_deed (T : Tx K mg) : FnOk P w K mg base CX0 3 T.is_deed.a T.is_deed.fd ["thing"] (spDeed K) := by
  have G_is_label := ok_is_label (P := P) (w := w) (base := base) T
  have G_is_amount := ok_is_amount (P := P) (w := w) (base := base) T
  have G_is_number := ok_is_number (P := P) (w := w) (base := base) T
  refine T.is_deed.F.ok sc_is_deed (fun vs H Q E h => by obtain ⟨v, d, rfl, _⟩ := h; rfl) (fun cdv A outer s H vs Q E hr h => ?_)
  obtain ⟨v, d, rfl, hd, sh, hl, q⟩ := h
  refine ⟨_, (pss_cons (ps_if (PW.pt (pw_or (pt_not (pt_val (pe_callB (call_isDK K) (by rfl) T.b_isinstance (by decide +kernel) (pa_cons (pv 0) (pa_cons (pe_bltn (v := .ty "tuple") (by rfl) T.b_tuple (by decide +kernel) rfl) pa_nil))))) (pw_or (pt_cmpR op_eq (pe_callB (call_lenK K) (by rfl) T.b_len (by decide +kernel) (pa_cons (pv 0) pa_nil)) pe_int (nomark _)) (pw_or1 (pt_not (pt_val (pe_callB (call_isDK K) (by rfl) T.b_isinstance (by decide +kernel) (pa_cons (pe_ix (ix_tupK K) (pv 0) pe_int (fun _ _ => rfl)) (pa_cons (pe_bltn (v := .ty "str") (by rfl) T.b_str (by decide +kernel) rfl) pa_nil)))))))))
  (pss_one (ps_ret pe_bl))
  pss_nil)
  (pss_cons (ps_par (i := 1) (j := 2) rfl sc_is_deed.nd rfl rfl (by decide) rfl rfl (pa_cons (pe_ix (ix_tupK K) (pv 0) pe_int (fun _ _ => rfl)) (pa_cons (pe_slice (sl_tupK K) (pv 0) (po_some pe_int) po_no) pa_nil)) rfl)
  (pss_cons (ps_if (pt_cmpR op_eq (pv 1) pe_str (nomark _))
  (pss_one (ps_ret (pe_cmpR (op_eqDK K (hu65 hr)) (pv 2) (pe_tup pa_nil) (nomark _))))
  pss_nil)
  (pss_cons (ps_if (pt_cmpR (op_inTDK K (hu65 hr)) (pv 1) (pe_tup (pa_cons pe_str (pa_cons pe_str pa_nil))) (by rfl))
  (pss_one (ps_ret (pe_and (pe_cmpR op_eq (pe_callB (call_lenK K) (by rfl) T.b_len (by decide +kernel) (pa_cons (pv 2) pa_nil)) pe_int (nomark _)) (pe_one (pe_ifExp (pt_cmpR op_eq (pv 1) pe_str (nomark _)) (pe_call G_is_number (hr.mono (by first | decide | omega)) rfl T.is_number.g T.is_number.F.kp T.is_number.b .nil pass0 (pa_cons (pe_ix (ix_tupK K) (pv 2) pe_int (fun _ _ => rfl)) pa_nil)) (pe_call G_is_label (hr.mono (by first | decide | omega)) rfl T.is_label.g T.is_label.F.kp T.is_label.b .nil pass0 (pa_cons (pe_ix (ix_tupK K) (pv 2) pe_int (fun _ _ => rfl)) pa_nil)))))))
  pss_nil)
  (pss_cons (ps_if (pt_cmpR op_ne (pe_callB (call_lenK K) (by rfl) T.b_len (by decide +kernel) (pa_cons (pv 2) pa_nil)) pe_int (nomark _))
  (pss_one (ps_ret pe_bl))
  pss_nil)
  (pss_cons (ps_if (pt_cmpR op_eq (pv 1) pe_str (nomark _))
  (pss_one (ps_ret (pe_and (pe_call G_is_label (hr.mono (by first | decide | omega)) rfl T.is_label.g T.is_label.F.kp T.is_label.b .nil pass0 (pa_cons (pe_ix (ix_tupK K) (pv 2) pe_int (fun _ _ => rfl)) pa_nil)) (pe_one (pe_call G_is_amount (hr.mono (by first | decide | omega)) rfl T.is_amount.g T.is_amount.F.kp T.is_amount.b .nil pass0 (pa_cons (pe_ix (ix_tupK K) (pv 2) pe_int (fun _ _ => rfl)) pa_nil))))))
  pss_nil)
  (pss_cons (ps_if (pt_not (pt_val (pe_call G_is_number (hr.mono (by first | decide | omega)) rfl T.is_number.g T.is_number.F.kp T.is_number.b .nil pass0 (pa_cons (pe_ix (ix_tupK K) (pv 2) pe_int (fun _ _ => rfl)) pa_nil))))
  (pss_one (ps_ret pe_bl))
  pss_nil)
  (pss_cons (ps_if (pt_cmpR (op_inTDK K (hu65 hr)) (pv 1) (pe_tup (pa_cons pe_str (pa_cons pe_str pa_nil))) (by rfl))
  (pss_one (ps_ret (pe_call G_is_label (hr.mono (by first | decide | omega)) rfl T.is_label.g T.is_label.F.kp T.is_label.b .nil pass0 (pa_cons (pe_ix (ix_tupK K) (pv 2) pe_int (fun _ _ => rfl)) pa_nil))))
  pss_nil)
  (pss_cons (ps_if (pt_cmpR (op_inTDK K (hu65 hr)) (pv 1) (pe_tup (pa_cons pe_str (pa_cons pe_str pa_nil))) (by rfl))
  (pss_one (ps_ret (pe_call G_is_amount (hr.mono (by first | decide | omega)) rfl T.is_amount.g T.is_amount.F.kp T.is_amount.b .nil pass0 (pa_cons (pe_ix (ix_tupK K) (pv 2) pe_int (fun _ _ => rfl)) pa_nil))))
  pss_nil)
  (pss_one (ps_ret (pe_and (pe_cmpR (op_inTDK K (hu65 hr)) (pv 1) (pe_tup (pa_cons pe_str (pa_cons pe_str pa_nil))) (by rfl)) (pe_one (pe_or (pe_cmpR op_isN (pe_ix (ix_tupK K) (pv 2) pe_int (fun _ _ => rfl)) pe_non (nomark _)) (pe_one (pe_call G_is_number (hr.mono (by first | decide | omega)) rfl T.is_number.g T.is_number.F.kp T.is_number.b .nil pass0 (pa_cons (pe_ix (ix_tupK K) (pv 2) pe_int (fun _ _ => rfl)) pa_nil))))))))))))))))), ?_⟩
  refine ⟨_, rfl, v, tyD d, "tuple", rfl, hd.ty, tyD_mem d, by decide, _, rfl, iteB (fun c => ?_) (fun c => ?_)⟩
  · have e : isDeedD d = false := by cases d <;> first | rfl | (simp [tyD, isTy] at c)
    have := q H (Same.refl H)
    rw [e] at this; exact this
  obtain ⟨ds, rfl⟩ : ∃ ds, d = .tuple ds := by
    cases d <;> first | exact ⟨_, rfl⟩ | (simp [tyD, isTy] at c)
  have hl := hl ds rfl
  obtain ⟨a, xs, rfl, hx, hxs⟩ := hd.tup_inv
  have hlen := hxs.length
  refine ⟨_, rfl, _, xs.length, rfl, .inr ⟨xs, hx, rfl⟩, rfl, _, rfl, iteB (fun c => ?_) (fun c0 => ?_)⟩
  · have c := of_decide_eq_true c
    obtain rfl : ds = [] := by
      have : V.int (xs.length : Int) = .int 0 := c
      injection this with this
      exact List.length_eq_zero_iff.mp (by omega)
    exact q H (Same.refl H)
  cases ds with
  | nil =>
    exfalso
    rw [hlen] at c0
    exact absurd c0 (by decide)
  | cons d0 rest =>
  obtain ⟨v0, e0, h0⟩ := hxs.get (i := 0) (d := d0) rfl
  refine ⟨_, rfl, a, xs, 0, v0, rfl, rfl, hx, atI_nat e0, v0, tyD d0, "str", rfl, h0.ty, tyD_mem d0, by decide, _, rfl, iteB (fun c => ?_) (fun c => ?_)⟩
  · have e : isDeedD (.tuple (d0 :: rest)) = false := by cases d0 <;> first | rfl | (simp [tyD, isTy] at c)
    have := q H (Same.refl H)
    rw [e] at this; exact this
  obtain ⟨w, rfl⟩ : ∃ w, d0 = .str w := by
    cases d0 <;> first | exact ⟨_, rfl⟩ | (simp [tyD, isTy] at c)
  obtain rfl := h0.str_inv
  have q : ∀ H', Same H H' → Q (.bl (isRestD w rest)) H' := q
  refine ⟨_, rfl, a, xs, 0, .str w, rfl, rfl, hx, atI_nat e0, _, rfl, _, rfl, slT_from (n := 1) (z := 1) hd rfl fun u H1 s1 hu => ?_⟩
  have hu : Dp K H1 u (.tuple rest) := hu
  have ⟨shw, shr⟩ := shaped_cons sh
  refine ⟨_, _, rfl, ?_⟩
  have lr : rest.length ≤ 1000 := by simp only [List.length_cons] at hl; omega
  obtain ⟨b, ys, rfl, hy, hys⟩ := hu.tup_inv
  have lys := hys.length
  have in2 : ∀ (p q : Str) {R : Bool → Hp → Prop} {H1 : Hp} (σ : St), σ[1]? = some (some (.str w)) → SeqAt.shaped (.tuple [.str p, .str q]) = true → (∀ H', Same H1 H' → R (decide (w = p ∨ w = q)) H') → tTest (tOp (rInTD K) (tVar 1) (tTup (tCons (tC (.str p)) (tCons (tC (.str q)) tNil)))) σ H1 R :=
    fun p q R H1 σ h1 sh' k => inS (ws := [p, q]) (gv_varS h1) (gv_tup (gs_cons gv_str (gs_cons gv_str gs_nil)) (by simp)) shw sh' fun H' s' => by
      have e : decide (w ∈ [p, q]) = decide (w = p ∨ w = q) := by simp
      rw [e]; exact k H' s'
  refine ⟨_, rfl, rfl, _, rfl, iteB (fun c => ?_) (fun c => ?_)⟩
  · -- rest == ()
    have e : w = "run" := by
      have := of_decide_eq_true c
      injection this
    have q : ∀ H', Same H H' → Q (.bl rest.isEmpty) H' := fun H' s => by
      have := q H' s
      unfold isRestD at this
      rw [if_pos e] at this; exact this
    refine ⟨_, rfl, line_of (by decide), fun p hp => ⟨.tuple rest, .tuple [], (Same.new hp).dp hu, .tupOf upd_same .nil, shr, by decide +kernel, ?_⟩⟩
    rw [eqv_empty]
    exact q _ (s1.add hp)
  have n1 : ¬ w = "run" := fun z => by rw [z] at c; exact absurd c (by decide)
  unfold isRestD at q
  rw [if_neg n1] at q
  have at0 : ∀ (σ : St) (H2 : Hp) (i : Nat), σ[2]? = some (some (.ref b)) → Same H1 H2 → i < rest.length → Gv K (tOp (rIxT K) (tVar 2) (tC (.int (i : Nat)))) σ H2 (rest.getD i .none) :=
    fun σ H2 i h1 s2 hi => gv_ixT (gv_var h1 (s2.dp hu)) gv_int (atI_getD hi)
  refine in2 _ _ _ rfl (by decide +kernel) fun H2 s2 => iteB (fun c => ?_) (fun c => ?_)
  · have c := of_decide_eq_true c
    rw [if_pos c] at q
    refine ⟨_, rfl, .ref b, ys.length, rfl, .inr ⟨ys, s2.sqT hy, rfl⟩, rfl, _, rfl, iteB (fun c2 => ?_) (fun c2 => ?_)⟩
    · have c2 : rest.length = 1 := by
        have := of_decide_eq_true c2
        injection this with this
        omega
      rw [decide_eq_true c2, Bool.true_and] at q
      refine ⟨_, rfl, rfl, _, rfl, iteB (fun c3 => ?_) (fun c3 => ?_)⟩
      · have c3 : w = "end" := by
          have := of_decide_eq_true c3
          injection this
        rw [if_pos c3] at q
        exact nmAt (at0 _ _ 0 rfl s2 (by omega)) fun H3 s3 => q H3 ((s1.trans s2).trans s3)
      · have c3 : ¬ w = "end" := fun z => by rw [z] at c3; exact absurd c3 (by decide)
        rw [if_neg c3] at q
        exact nmAt (at0 _ _ 0 rfl s2 (by omega)) fun H3 s3 => q H3 ((s1.trans s2).trans s3)
    · have c2 : ¬ rest.length = 1 := fun z => by
        rw [lys, z] at c2; exact absurd c2 (by decide)
      rw [decide_eq_false c2, Bool.false_and] at q
      exact q H2 (s1.trans s2)
  have c := of_decide_eq_false c
  rw [if_neg c] at q
  have s12 := s1.trans s2
  refine ⟨_, rfl, .ref b, ys.length, rfl, .inr ⟨ys, s2.sqT hy, rfl⟩, rfl, _, rfl, iteB (fun c2 => ?_) (fun c2 => ?_)⟩
  · have c2 : rest.length ≠ 2 := fun z => by rw [lys, z] at c2; exact absurd c2 (by decide)
    rw [if_pos c2] at q
    exact q H2 s12
  have c2 : rest.length = 2 := by
    rw [lys] at c2
    have := by simpa using c2
    omega
  rw [if_neg (fun z => z c2)] at q
  refine ⟨_, rfl, rfl, _, rfl, iteB (fun c3 => ?_) (fun c3 => ?_)⟩
  · have c3 : w = "add" := by
      have := of_decide_eq_true c3
      injection this
    rw [if_pos c3] at q
    refine nmAt (at0 _ _ 0 rfl s2 (by omega)) fun H3 s3 => ⟨_, rfl, iteB (fun c4 => ?_) (fun c4 => ?_)⟩
    · rw [c4, Bool.true_and] at q
      exact nmAt (at0 _ _ 1 rfl (s2.trans s3) (by omega)) fun H4 s4 => q H4 ((s12.trans s3).trans s4)
    · rw [c4, Bool.false_and] at q
      exact q H3 (s12.trans s3)
  have c3 : ¬ w = "add" := fun z => by rw [z] at c3; exact absurd c3 (by decide)
  rw [if_neg c3] at q
  refine nmAt (at0 _ _ 0 rfl s2 (by omega)) fun H3 s3 => ⟨_, rfl, iteB (fun c4 => ?_) (fun c4 => ?_)⟩
  · rw [if_pos (by simpa using c4)] at q
    exact q H3 (s12.trans s3)
  rw [if_neg (by simpa using c4)] at q
  have s13 := s12.trans s3
  refine in2 _ _ _ rfl (by decide +kernel) fun H4 s4 => iteB (fun c5 => ?_) (fun c5 => ?_)
  · rw [if_pos (of_decide_eq_true c5)] at q
    exact nmAt (at0 _ _ 1 rfl ((s2.trans s3).trans s4) (by omega)) fun H5 s5 => q H5 ((s13.trans s4).trans s5)
  rw [if_neg (of_decide_eq_false c5)] at q
  refine in2 _ _ _ rfl (by decide +kernel) fun H5 s5 => iteB (fun c6 => ?_) (fun c6 => ?_)
  · rw [if_pos (of_decide_eq_true c6)] at q
    exact nmAt (at0 _ _ 1 rfl (((s2.trans s3).trans s4).trans s5) (by omega)) fun H6 s6 => q H6 (((s13.trans s4).trans s5).trans s6)
  rw [if_neg (of_decide_eq_false c6)] at q
  refine in2 _ _ _ rfl (by decide +kernel) fun H6 s6 => iteB (fun c7 => ?_) (fun c7 => ?_)
  · rw [if_pos (of_decide_eq_true c7)] at q
    have s16 := ((s13.trans s4).trans s5).trans s6
    refine (at0 _ _ 1 rfl ((((s2.trans s3).trans s4).trans s5).trans s6) (by omega)).go fun v H7 s7 hv => ⟨rfl, _, rfl, iteB (fun c8 => ?_) (fun c8 => ?_)⟩
    · have e := of_decide_eq_true c8
      subst e
      have e : isNoneD (rest.getD 1 .none) = true := by
        generalize rest.getD 1 .none = d at hv
        cases hv; rfl
      rw [e, Bool.true_or] at q
      exact q H7 (s16.trans s7)
    · have e : isNoneD (rest.getD 1 .none) = false := by
        generalize rest.getD 1 .none = d at hv
        cases hv <;> first | rfl | exact absurd c8 (by decide)
      rw [e, Bool.false_or] at q
      exact nmAt (at0 _ _ 1 rfl (((((s2.trans s3).trans s4).trans s5).trans s6).trans s7) (by omega)) fun H8 s8 => q H8 ((s16.trans s7).trans s8)
  · rw [if_neg (of_decide_eq_false c7)] at q
    exact q H6 (((s13.trans s4).trans s5).trans s6)
end
end Y

/-! # plays.py: the lines and the ledgers -/
namespace Y
open PySem L2 M
/-- the classes of the ledgers -/
def c3 {K : PySem.W.Frag} {mg : Str → Option Value} (T : Tx K mg) : C3 := ⟨T.c_OldLine, T.c_NewLine, T.c_Ledgers, T.ne_OldLine_NewLine, T.ne_OldLine_Ledgers, T.ne_NewLine_Ledgers⟩
def tD : Option Int → PyData
  | none => .none
  | some i => .int i
theorem dp_tv {K : PySem.W.Frag} {H : Hp} (t : Option Int) : Dp K H (tv t) (tD t) := by
  cases t with
  | none => exact .non
  | some i => exact .int i
def oRow (n : Int) (o : OL) : PyData := .tuple [.int n, .int o.label, .int o.start, .int o.moves, tD o.tie, .bool o.standing]
def nRow (n : NL) : PyData := .tuple [.int n.number, .int n.label, .int n.start, .int n.moves, tD n.tie, tD n.source]
theorem gv_fld {K : PySem.W.Frag} {σ : St} {H : Hp} {i : Nat} {f : Str} {x C dx : Addr} {fs : List (Str × V)} {v : V} {d : PyData} (h : σ[i]? = some (some (.ref x))) (hx : H x = some (.ins C dx fs)) (c : Cls K C) (n : NoAttr K C f) (l : fs.lookup f = some v) (hd : Dp K H v d) : Gv K (tFld K (tVar i) f) σ H d :=
  fun H1 s1 Q q => ⟨_, h, x, C, dx, fs, v, rfl, s1 _ _ hx, c, n, l, q v H1 (Same.refl H1) (s1.dp hd)⟩
theorem updN {H : Hp} {p x : Addr} {o : HO} (h : upd H p o x = none) : x ≠ p ∧ H x = none := by
  by_cases e : x = p
  · rw [e, upd_same] at h; cases h
  · rw [upd_ne e] at h; exact ⟨e, h⟩
theorem LedP.toA {C : C3} {S : Addr → Prop} {H : Hp} {a : Addr} {L : Led} {B : Nat} {da l1 l2 l3 d : Addr} {os : List (Addr × OL)} {ns : NS} (P : LedP C S H a L B da l1 l2 l3 d os ns) : LedAt C S H a L B := ⟨_, _, _, _, _, _, _, P⟩
def spOInit (C : Addr) : Sp := fun vs H Q _ => ∃ (x dx : Addr) (n l s : Int), vs = [.ref x, .int n, .int l, .int s] ∧ H x = some (.ins C dx []) ∧ Q .non (upd H x (.ins C dx (oF n ⟨l, s, 0, none, true⟩)))
def spORow (K : PySem.W.Frag) (C : Addr) : Sp := fun vs H Q _ => ∃ (x dx : Addr) (n : Int) (o : OL), vs = [.ref x] ∧ H x = some (.ins C dx (oF n o)) ∧ ∀ v H', Same H H' → Dp K H' v (oRow n o) → Q v H'
def spNRow (K : PySem.W.Frag) (C : Addr) : Sp := fun vs H Q _ => ∃ (x dx t : Addr) (n : NL), vs = [.ref x] ∧ H x = some (.ins C dx (nF n t)) ∧ ∀ v H', Same H H' → Dp K H' v (nRow n) → Q v H'
/-- the ledgers, just made -/
def spLInit (C : C3) : Sp := fun vs H Q _ => ∃ (a da : Addr) (S : Addr → Prop), vs = [.ref a] ∧ H a = some (.ins C.l da []) ∧ Dom S H ∧ S a ∧ ∀ H', LedAt C S H' a Led.init 0 → Keep S H H' → Q .non H'
def oRows (L : Led) : List PyData := L.elder.mapIdx fun i o => oRow ((i : Int) + 1) o
def nRows (L : Led) : List PyData := L.later.map nRow
theorem mem_oRows {L : Led} {d : PyData} (h : d ∈ oRows L) : ∃ (j : Int) (o : OL), d = oRow j o := by
  obtain ⟨i, hi⟩ := List.mem_iff_getElem?.mp h
  rw [oRows, List.getElem?_mapIdx] at hi
  obtain ⟨o, _, rfl⟩ := Option.map_eq_some_iff.mp hi
  exact ⟨_, o, rfl⟩
/-- a deed as data -/
def dD : Deed → PyData
  | .add l a => .tuple [.str "add", .int l, .int a]
  | .label n l => .tuple [.str "label", .int n, .int l]
  | .moves n a => .tuple [.str "moves", .int n, .int a]
  | .tie n m => .tuple [.str "tie", .int n, tD m]
  | .fin n => .tuple [.str "end", .int n]
  | .own l => .tuple [.str "own", .int l]
  | .wlabel n l => .tuple [.str "write label", .int n, .int l]
  | .wmoves n a => .tuple [.str "write moves", .int n, .int a]
  | .wtie n m => .tuple [.str "write tie", .int n, tD m]
  | .run => .tuple [.str "run"]
theorem imm_tD (m : Option Int) : imm (tD m) = true := by cases m <;> rfl
theorem imm_dD (x : Deed) : imm (dD x) = true := by
  cases x <;> simp [dD, imm, immAll, imm_tD]
def isOld : Deed → Bool
  | .add _ _ => true
  | .label _ _ => true
  | .moves _ _ => true
  | .tie _ _ => true
  | .fin _ => true
  | _ => false
/-- a deed's values -/
def dV : Deed → List V
  | .add l a => [.str "add", .int l, .int a]
  | .label n l => [.str "label", .int n, .int l]
  | .moves n a => [.str "moves", .int n, .int a]
  | .tie n m => [.str "tie", .int n, tv m]
  | .fin n => [.str "end", .int n]
  | .own l => [.str "own", .int l]
  | .wlabel n l => [.str "write label", .int n, .int l]
  | .wmoves n a => [.str "write moves", .int n, .int a]
  | .wtie n m => [.str "write tie", .int n, tv m]
  | .run => [.str "run"]
theorem tD_inv {K : PySem.W.Frag} {H : Hp} {v : V} {m : Option Int} (h : Dp K H v (tD m)) : v = tv m := by
  cases m with
  | none => exact h.non_inv
  | some i => exact h.int_inv
theorem dD_inv {K : PySem.W.Frag} {H : Hp} {v : V} {x : Deed} (h : Dp K H v (dD x)) : ∃ a, v = .ref a ∧ SqT K H a (dV x) := by
  have h3 : ∀ {a b c : PyData} {va vb vc : V}, (∀ v, Dp K H v a → v = va) → (∀ v, Dp K H v b → v = vb) → (∀ v, Dp K H v c → v = vc) → Dp K H v (.tuple [a, b, c]) → ∃ p, v = .ref p ∧ SqT K H p [va, vb, vc] := fun ha hb hc h => by
    obtain ⟨p, xs, rfl, hq, hx⟩ := h.tup_inv
    cases hx with
    | cons h1 hx => cases hx with
      | cons h2 hx => cases hx with
        | cons h3 hx => cases hx; rw [ha _ h1, hb _ h2, hc _ h3] at hq; exact ⟨p, rfl, hq⟩
  have h2 : ∀ {a b : PyData} {va vb : V}, (∀ v, Dp K H v a → v = va) → (∀ v, Dp K H v b → v = vb) → Dp K H v (.tuple [a, b]) → ∃ p, v = .ref p ∧ SqT K H p [va, vb] := fun ha hb h => by
    obtain ⟨p, xs, rfl, hq, hx⟩ := h.tup_inv
    cases hx with
    | cons h1 hx => cases hx with
      | cons h2 hx => cases hx; rw [ha _ h1, hb _ h2] at hq; exact ⟨p, rfl, hq⟩
  have h1 : ∀ {a : PyData} {va : V}, (∀ v, Dp K H v a → v = va) → Dp K H v (.tuple [a]) → ∃ p, v = .ref p ∧ SqT K H p [va] := fun ha h => by
    obtain ⟨p, xs, rfl, hq, hx⟩ := h.tup_inv
    cases hx with
    | cons h1 hx => cases hx; rw [ha _ h1] at hq; exact ⟨p, rfl, hq⟩
  cases x with
  | add => exact h3 (fun _ h => h.str_inv) (fun _ h => h.int_inv) (fun _ h => h.int_inv) h
  | label => exact h3 (fun _ h => h.str_inv) (fun _ h => h.int_inv) (fun _ h => h.int_inv) h
  | moves => exact h3 (fun _ h => h.str_inv) (fun _ h => h.int_inv) (fun _ h => h.int_inv) h
  | tie => exact h3 (fun _ h => h.str_inv) (fun _ h => h.int_inv) (fun _ h => tD_inv h) h
  | fin => exact h2 (fun _ h => h.str_inv) (fun _ h => h.int_inv) h
  | own => exact h2 (fun _ h => h.str_inv) (fun _ h => h.int_inv) h
  | wlabel => exact h3 (fun _ h => h.str_inv) (fun _ h => h.int_inv) (fun _ h => h.int_inv) h
  | wmoves => exact h3 (fun _ h => h.str_inv) (fun _ h => h.int_inv) (fun _ h => h.int_inv) h
  | wtie => exact h3 (fun _ h => h.str_inv) (fun _ h => h.int_inv) (fun _ h => tD_inv h) h
  | run => exact h1 (fun _ h => h.str_inv) h
/-- what a deed does to its old line -/
def setF : Deed → OL → OL
  | .label _ l, o => { o with label := l }
  | .moves _ a, o => { o with moves := a }
  | .tie _ m, o => { o with tie := m }
  | .fin _, o => { o with standing := false }
  | _, o => o
def isSet : Deed → Bool
  | .label _ _ => true
  | .moves _ _ => true
  | .tie _ _ => true
  | .fin _ => true
  | _ => false
def spSetField (K : PySem.W.Frag) (C : Addr) : Sp := fun vs H Q _ => ∃ (sv : V) (x dx p : Addr) (n : Int) (o : OL) (e : Deed), vs = [sv, .ref x, .ref p] ∧ H x = some (.ins C dx (oF n o)) ∧ SqT K H p (dV e) ∧ isSet e = true ∧ Q .non (upd H x (.ins C dx (oF n (setF e o))))
def spNewLine (C : C3) : Sp := fun vs H Q _ => ∃ (a : Addr) (n : Int) (S : Addr → Prop) (L : Led) (B : Nat) (da l1 l2 l3 d : Addr) (os : List (Addr × OL)) (ns : NS), vs = [.ref a, .int n] ∧ LedP C S H a L B da l1 l2 l3 d os ns ∧ B ≤ 5000 ∧
  ∀ H', Same H H' → (∀ x ∈ ns, x.2.2.number = n → Q (.ref x.1) H') ∧ ((∀ x ∈ ns, x.2.2.number ≠ n) → Q .non H')
def spCheck (K : PySem.W.Frag) (C : C3) : Sp := fun vs H Q _ => ∃ (a p : Addr) (iv : V) (S : Addr → Prop) (L : Led) (B : Nat) (e : Deed), vs = [.ref a, .ref p, iv] ∧ LedAt C S H a L B ∧ B ≤ 5000 ∧ SqT K H p (dV e) ∧ okM L e ∧ ∀ H', Same H H' → Q .non H'
def spOldLine (C : Addr) : Sp := fun vs H Q _ => ∃ (a da l1 l2 l3 d : Addr) (ever n : Int) (xs : List V), vs = [.ref a, .int n] ∧ H a = some (.ins C da (lF l1 l2 l3 d ever)) ∧ H l1 = some (.lst xs) ∧
  (∀ (j : Nat) v, n = (j : Int) + 1 → xs[j]? = some v → Q v H) ∧ (¬ (1 ≤ n ∧ n ≤ (xs.length : Int)) → Q .non H)
/-- told lists are new -/
def spRows (K : PySem.W.Frag) (C : C3) : Sp := fun vs H Q _ => ∃ (a : Addr) (S : Addr → Prop) (L : Led) (B : Nat), vs = [.ref a] ∧ LedAt C S H a L B ∧ B ≤ 5000 ∧
  ∀ (t e f : Addr) (xs ys : List V) (H' : Hp), Same H H' → H t = none → H e = none → H f = none → e ≠ f → H' t = some (.tup [.ref e, .ref f]) → H' e = some (.lst xs) → H' f = some (.lst ys) →
    DpAll K H' xs (oRows L) → DpAll K H' ys (nRows L) → Q (.ref t) H'
def spNInit (C : Addr) : Sp := fun vs H Q _ => ∃ (x dx : Addr) (n l s : Int) (src : Option Int), vs = [.ref x, .int n, .int l, .int s, tv src] ∧ H x = some (.ins C dx []) ∧
  ∀ (t : Addr) (H' : Hp), H t = none → H' x = some (.ins C dx (nF ⟨n, l, s, src, 0, none, []⟩ t)) → H' t = some (.lst []) → (∀ b o, H b = some o → b ≠ x → H' b = some o) → (∀ b, H' b = none → H b = none) → Q .non H'
def spPutLine (C : C3) : Sp := fun vs H Q _ => ∃ (a : Addr) (l s : Int) (src : Option Int) (S : Addr → Prop) (L : Led) (B B' : Nat) (da l1 l2 l3 d : Addr) (os : List (Addr × OL)) (ns : NS), vs = [.ref a, .int l, .int s, tv src] ∧ LedP C S H a L B da l1 l2 l3 d os ns ∧ WF (putM L l s src) B' ∧ B ≤ 5000 ∧
  ∀ H' z, Keep S H H' → LedP C S H' a (putM L l s src) B' da l1 l2 l3 d os (ns ++ [z]) → Q (.int (L.ever + 1)) H'
/-- what a typed deed does to its new line -/
def wrF : Deed → NL → NL
  | .wlabel _ l, o => { o with label := l, typed := o.typed ++ [("label" : Str)] }
  | .wmoves _ a, o => { o with moves := a }
  | .wtie _ m, o => { o with tie := m, typed := o.typed ++ [("tie" : Str)] }
  | _, o => o
def isWr : Deed → Bool
  | .wlabel _ _ => true
  | .wmoves _ _ => true
  | .wtie _ _ => true
  | _ => false
def wrVal : Deed → V
  | .wlabel _ l => .int l
  | .wmoves _ a => .int a
  | .wtie _ m => tv m
  | _ => .non
def wrWord : Deed → Str
  | .wlabel _ _ => "write label"
  | .wmoves _ _ => "write moves"
  | .wtie _ _ => "write tie"
  | _ => ""
def spWriteField (C : Addr) : Sp := fun vs H Q _ => ∃ (sv : V) (x dx t : Addr) (o : NL) (e : Deed), vs = [sv, .ref x, .str (wrWord e), wrVal e] ∧ H x = some (.ins C dx (nF o t)) ∧ H t = some (.lst (o.typed.map V.str)) ∧ isWr e = true ∧ o.typed.length ≤ 5000 ∧
  ∀ H', H' x = some (.ins C dx (nF (wrF e o) t)) → H' t = some (.lst ((wrF e o).typed.map V.str)) → (∀ b u, H b = some u → b ≠ x → b ≠ t → H' b = some u) → (∀ b, H' b = none → H b = none) → Q .non H'
/-- what a deed returns -/
def retV (L : Led) : Deed → V
  | .add _ _ => .int (L.elder.length + 1)
  | .own _ => .int (L.ever + 1)
  | _ => .non
def spPlayDeed (K : PySem.W.Frag) (C : C3) (spR : Sp) : Sp := fun vs H Q _ => ∃ (a p : Addr) (sv : V) (S : Addr → Prop) (L : Led) (B : Nat) (e : Deed), vs = [.ref a, sv, .ref p] ∧ LedAt C S H a L B ∧ B ≤ 4990 ∧ SqT K H p (dV e) ∧ okM L e ∧
  ((e ≠ .run ∧ ∀ H', Keep S H H' → LedAt C S H' a (playM [] L e) (B + 1) → Q (retV L e) H') ∨ (e = .run ∧ spR [.ref a, sv] H Q E0))
section
variable {P : Program} {w : World} {K : PySem.W.Frag} {mg : Str → Option Value} {base : Heap}
theorem ok_OldLine_init (T : Tx K mg) : FnOk P w K mg base CX0 1 T.OldLine_init.a T.OldLine_init.fd ["self", "number", "label", "start"] (spOInit T.c_OldLine) := by
  refine T.OldLine_init.F.ok sc_OldLine_init (fun vs H Q E h => by obtain ⟨x, dx, n, l, s, rfl, _⟩ := h; rfl) (fun cdv A outer s H vs Q E hr h => ?_)
  obtain ⟨x, dx, n, l, st, rfl, hx, q⟩ := h
  refine ⟨_, (pss_cons (ps_fldK K (pv 0) (pv 1) rfl)
  (pss_cons (ps_fldK K (pv 0) (pv 2) rfl)
  (pss_cons (ps_fldK K (pv 0) (pv 3) rfl)
  (pss_cons (ps_fldK K (pv 0) pe_int rfl)
  (pss_cons (ps_fldK K (pv 0) pe_non rfl)
  (pss_one (ps_fldK K (pv 0) pe_bl rfl))))))), ?_⟩
  refine ⟨_, rfl, _, rfl, x, T.c_OldLine, dx, _, rfl, hx, T.cl_OldLine, T.na_OldLine_number, of_decide_eq_true rfl, ?_⟩
  refine ⟨_, rfl, _, rfl, x, T.c_OldLine, dx, _, rfl, upd_same, T.cl_OldLine, T.na_OldLine_label, of_decide_eq_true rfl, ?_⟩
  refine ⟨_, rfl, _, rfl, x, T.c_OldLine, dx, _, rfl, upd_same, T.cl_OldLine, T.na_OldLine_start, of_decide_eq_true rfl, ?_⟩
  refine ⟨_, rfl, x, T.c_OldLine, dx, _, rfl, upd_same, T.cl_OldLine, T.na_OldLine_moves, of_decide_eq_true rfl, ?_⟩
  refine ⟨_, rfl, x, T.c_OldLine, dx, _, rfl, upd_same, T.cl_OldLine, T.na_OldLine_tie, of_decide_eq_true rfl, ?_⟩
  refine ⟨_, rfl, x, T.c_OldLine, dx, _, rfl, upd_same, T.cl_OldLine, T.na_OldLine_standing, of_decide_eq_true rfl, ?_⟩
  rw [upd_upd, upd_upd, upd_upd, upd_upd, upd_upd]
  exact q
theorem ok_OldLine_row (T : Tx K mg) : FnOk P w K mg base CX0 1 T.OldLine_row.a T.OldLine_row.fd ["self"] (spORow K T.c_OldLine) := by
  refine T.OldLine_row.F.ok sc_OldLine_row (fun vs H Q E h => by obtain ⟨x, dx, n, o, rfl, _⟩ := h; rfl) (fun cdv A outer s H vs Q E hr h => ?_)
  obtain ⟨x, dx, n, o, rfl, hx, q⟩ := h
  refine ⟨_, (pss_one (ps_ret (pe_tup (pa_cons (pe_fldK K (pv 0) rfl) (pa_cons (pe_fldK K (pv 0) rfl) (pa_cons (pe_fldK K (pv 0) rfl) (pa_cons (pe_fldK K (pv 0) rfl) (pa_cons (pe_fldK K (pv 0) rfl) (pa_cons (pe_fldK K (pv 0) rfl) pa_nil))))))))), ?_⟩
  refine Gv.go (d := oRow n o) (gv_tup (gs_cons (gv_fld rfl hx T.cl_OldLine T.na_OldLine_number rfl (.int _)) (gs_cons (gv_fld rfl hx T.cl_OldLine T.na_OldLine_label rfl (.int _)) (gs_cons (gv_fld rfl hx T.cl_OldLine T.na_OldLine_start rfl (.int _))
    (gs_cons (gv_fld rfl hx T.cl_OldLine T.na_OldLine_moves rfl (.int _)) (gs_cons (gv_fld rfl hx T.cl_OldLine T.na_OldLine_tie rfl (dp_tv _)) (gs_cons (gv_fld rfl hx T.cl_OldLine T.na_OldLine_standing rfl (.bl _)) gs_nil)))))) (by simp)) ?_
  exact q
theorem ok_NewLine_row (T : Tx K mg) : FnOk P w K mg base CX0 1 T.NewLine_row.a T.NewLine_row.fd ["self"] (spNRow K T.c_NewLine) := by
  refine T.NewLine_row.F.ok sc_NewLine_row (fun vs H Q E h => by obtain ⟨x, dx, t, n, rfl, _⟩ := h; rfl) (fun cdv A outer s H vs Q E hr h => ?_)
  obtain ⟨x, dx, t, n, rfl, hx, q⟩ := h
  refine ⟨_, (pss_one (ps_ret (pe_tup (pa_cons (pe_fldK K (pv 0) rfl) (pa_cons (pe_fldK K (pv 0) rfl) (pa_cons (pe_fldK K (pv 0) rfl) (pa_cons (pe_fldK K (pv 0) rfl) (pa_cons (pe_fldK K (pv 0) rfl) (pa_cons (pe_fldK K (pv 0) rfl) pa_nil))))))))), ?_⟩
  refine Gv.go (d := nRow n) (gv_tup (gs_cons (gv_fld rfl hx T.cl_NewLine T.na_NewLine_number rfl (.int _)) (gs_cons (gv_fld rfl hx T.cl_NewLine T.na_NewLine_label rfl (.int _)) (gs_cons (gv_fld rfl hx T.cl_NewLine T.na_NewLine_start rfl (.int _))
    (gs_cons (gv_fld rfl hx T.cl_NewLine T.na_NewLine_moves rfl (.int _)) (gs_cons (gv_fld rfl hx T.cl_NewLine T.na_NewLine_tie rfl (dp_tv _)) (gs_cons (gv_fld rfl hx T.cl_NewLine T.na_NewLine_source rfl (dp_tv _)) gs_nil)))))) (by simp)) ?_
  exact q
theorem ok_Ledgers_init (T : Tx K mg) : FnOk P w K mg base CX0 1 T.Ledgers_init.a T.Ledgers_init.fd ["self"] (spLInit (c3 T)) := by
  refine T.Ledgers_init.F.ok sc_Ledgers_init (fun vs H Q E h => by obtain ⟨a, da, S, rfl, _⟩ := h; rfl) (fun cdv A outer s H vs Q E hr h => ?_)
  obtain ⟨a, da, S, rfl, ha, dm, sa, q⟩ := h
  refine ⟨_, (pss_cons (ps_fldK K (pv 0) (pe_lst pa_nil) rfl)
  (pss_cons (ps_fldK K (pv 0) (pe_lst pa_nil) rfl)
  (pss_cons (ps_fldK K (pv 0) pe_int rfl)
  (pss_cons (ps_fldK K (pv 0) (pe_lst pa_nil) rfl)
  (pss_one (ps_fldK K (pv 0) pe_dnewK rfl)))))), ?_⟩
  refine ⟨line_of (by decide), fun l1 n1 => ⟨_, rfl, a, T.c_Ledgers, da, _, rfl, Same.new n1 _ _ ha, T.cl_Ledgers, T.na_Ledgers_elder, of_decide_eq_true rfl, ?_⟩⟩
  refine ⟨line_of (by decide), fun l2 n2 => ⟨_, rfl, a, T.c_Ledgers, da, _, rfl, Same.new n2 _ _ upd_same, T.cl_Ledgers, T.na_Ledgers_later, of_decide_eq_true rfl, ?_⟩⟩
  refine ⟨_, rfl, a, T.c_Ledgers, da, _, rfl, upd_same, T.cl_Ledgers, T.na_Ledgers_ever, of_decide_eq_true rfl, ?_⟩
  refine ⟨line_of (by decide), fun l3 n3 => ⟨_, rfl, a, T.c_Ledgers, da, _, rfl, Same.new n3 _ _ upd_same, T.cl_Ledgers, T.na_Ledgers_fresh, of_decide_eq_true rfl, ?_⟩⟩
  refine fun d n4 => ⟨_, rfl, a, T.c_Ledgers, da, _, rfl, Same.new n4 _ _ upd_same, T.cl_Ledgers, T.na_Ledgers_ahead, of_decide_eq_true rfl, ?_⟩
  have e4 := updN n4; have e3 := updN n3; have e2 := updN n2
  have f4a := e4.1; have f4b := updN e4.2; have f4c := updN (updN f4b.2).2; have f4d := updN f4c.2; have f4e := updN f4d.2
  have f3a := e3.1; have f3b := updN (updN e3.2).2; have f3c := updN f3b.2; have f3d := updN f3c.2
  have f2a := e2.1; have f2b := updN e2.2
  have fl1 : l1 ≠ a := (ne_of_none ha n1).symm
  have la : ∀ {x : Addr} {o : HO}, x ≠ l1 → H x = some o → (∀ y, y = l1 ∨ y = l2 ∨ y = l3 ∨ y = d → x ≠ y) := fun {x o} _ e y hy z => by
    subst z
    rcases hy with rfl | rfl | rfl | rfl
    · rw [n1] at e; cases e
    · rw [f2b.2] at e; cases e
    · rw [f3d.2] at e; cases e
    · rw [(updN f4e.2).2] at e; cases e
  have f4f := updN f4e.2
  have s0 : S a ∧ S l1 ∧ S l2 ∧ S l3 ∧ S d := ⟨sa, dm _ n1, dm _ f2b.2, dm _ f3d.2, dm _ f4f.2⟩
  refine q _ ⟨da, l1, l2, l3, d, [], [], ⟨upd_same, rfl, rfl, ?_, ?_, ?_, ⟨[], rfl, ?_, fun i x t h => by simp [Led.init] at h⟩, fun j x h => by simp at h, fun x h => by simp at h, ?_, s0, fun x h => by simp at h, fun x h => by simp at h, ?_, ?_⟩⟩ ?_
  · simp only [upd, if_neg fl1, if_neg (Ne.symm f4f.1), if_neg (Ne.symm f3d.1), if_neg (Ne.symm f2b.1), if_true]; rfl
  · simp only [upd, if_neg f2a, if_neg (Ne.symm f4d.1), if_neg (Ne.symm f3b.1), if_true]; rfl
  · simp only [upd, if_neg f3a, if_neg (Ne.symm f4b.1), if_true]; rfl
  · simp only [upd, if_neg f4a, if_true]; rfl
  · simp [Ne.symm f2b.1, Ne.symm f3d.1, Ne.symm f3b.1]
  · intro x hx
    have g1 := updN hx
    have g2 := updN g1.2
    have g3 := updN (updN g2.2).2
    have g4 := updN (updN (updN g3.2).2).2
    exact dm x (updN (updN g4.2).2).2
  · exact WF.init
  · have m : ∀ {H : Hp} {C : Addr} {dx : Addr} {fs o}, H a = some (.ins C dx fs) → Keep S H (upd H a o) := fun h => Keep.mut sa (by rw [h]; trivial)
    refine ((((((((((Same.new n1).kp.trans (m (Same.new n1 _ _ ha))).trans (Same.new n2).kp).trans (m (Same.new n2 _ _ upd_same))).trans (m upd_same)).trans (Same.new n3).kp).trans (m (Same.new n3 _ _ upd_same))).trans (Same.new n4).kp)).trans (m (Same.new n4 _ _ upd_same)))
theorem ok_old_line (T : Tx K mg) : FnOk P w K mg base CX0 1 T.Ledgers_old_line.a T.Ledgers_old_line.fd ["self", "number"] (spOldLine T.c_Ledgers) := by
  refine T.Ledgers_old_line.F.ok sc_Ledgers_old_line (fun vs H Q E h => by obtain ⟨a, da, l1, l2, l3, d, ever, n, xs, rfl, _⟩ := h; rfl) (fun cdv A outer s H vs Q E hr h => ?_)
  obtain ⟨a, da, l1, l2, l3, d, ever, n, xs, rfl, ha, h1, q1, q2⟩ := h
  refine ⟨_, (pss_one (ps_ret (pe_ifExp (pt_chain op_le op_le pe_int (pv 1) (pe_callB (call_lenK K) (by rfl) T.b_len (by decide +kernel) (pa_cons (pe_fldK K (pv 0) rfl) pa_nil))) (pe_ix (ix_listK K) (pe_fldK K (pv 0) rfl) (pe_op op_sub (pv 1) pe_int) (fun _ _ => rfl)) pe_non))), ?_⟩
  refine ⟨_, rfl, _, _, rfl, rfl, _, rfl, iteB (fun c => ?_) (fun c => ?_)⟩
  · have c := of_decide_eq_true c
    refine ⟨_, rfl, a, T.c_Ledgers, da, _, _, rfl, ha, T.cl_Ledgers, T.na_Ledgers_elder, rfl, _, _, rfl, .inl ⟨xs, SqL.of h1, rfl⟩, _, _, rfl, rfl, _, rfl, iteB (fun c2 => ?_) (fun c2 => ?_)⟩
    · have c2 := of_decide_eq_true c2
      have hj : (n - 1).toNat < xs.length := by omega
      have hg := List.getElem?_eq_getElem hj
      refine ⟨_, rfl, a, T.c_Ledgers, da, _, _, rfl, ha, T.cl_Ledgers, T.na_Ledgers_elder, rfl, _, rfl, _, _, rfl, rfl, l1, xs, n - 1, _, rfl, rfl, SqL.of h1, at_of (by omega) hg, ?_⟩
      exact q1 _ _ (by omega) hg
    · have c2 := of_decide_eq_false c2
      exact q2 (by omega)
  · have c := of_decide_eq_false c
    exact ⟨_, rfl, iteF (q2 (by omega))⟩
theorem ok_rows (T : Tx K mg) : FnOk P w K mg base CX0 2 T.Ledgers_rows.a T.Ledgers_rows.fd ["self"] (spRows K (c3 T)) := by
  have G_OldLine_row := ok_OldLine_row (P := P) (w := w) (base := base) T
  have G_NewLine_row := ok_NewLine_row (P := P) (w := w) (base := base) T
  refine T.Ledgers_rows.F.ok sc_Ledgers_rows (fun vs H Q E h => by obtain ⟨a, S, L, B, rfl, _⟩ := h; rfl) (fun cdv A outer s H vs Q E hr h => ?_)
  obtain ⟨a, S, L, B, rfl, ⟨da, l1, l2, l3, d, os, ns, p⟩, hB, q⟩ := h
  refine ⟨_, (pss_one (ps_ret (pe_tup (pa_cons (pe_lc (own := [("line", 1)]) (g := (gName 1)) (tt := tYes) rfl sc_Ledgers_rows.nd (pi_listK K (pe_fldK K (pv 0) rfl)) (blkOk_by (N := ["self", "line"]) (sc := defScope s_Ledgers_rows) (by decide +kernel)) (fun _ _ _ _ _ => pg_name (i := 1) sc_Ledgers_rows.nd rfl (Or.inl rfl)) (fun _ _ _ _ _ => pts_nil) (fun _ _ _ _ _ => (pe_meth0 (pv 1) T.cl_OldLine T.OldLine_row.m G_OldLine_row (hr.mono (by first | decide | omega)) T.OldLine_row.b .nil pass0))) (pa_cons (pe_lc (own := [("line", 1)]) (g := (gName 1)) (tt := tYes) rfl sc_Ledgers_rows.nd (pi_listK K (pe_fldK K (pv 0) rfl)) (blkOk_by (N := ["self", "line"]) (sc := defScope s_Ledgers_rows) (by decide +kernel)) (fun _ _ _ _ _ => pg_name (i := 1) sc_Ledgers_rows.nd rfl (Or.inl rfl)) (fun _ _ _ _ _ => pts_nil) (fun _ _ _ _ _ => (pe_meth0 (pv 1) T.cl_NewLine T.NewLine_row.m G_NewLine_row (hr.mono (by first | decide | omega)) T.NewLine_row.b .nil pass0))) pa_nil))))), ?_⟩
  have imo : immAll (oRows L) = true := imm_all fun d hd => by
    obtain ⟨j, o, rfl⟩ := mem_oRows hd
    simp [oRow, imm, immAll, imm_tD]
  have imn : immAll (nRows L) = true := imm_all fun d hd => by
    obtain ⟨n, _, rfl⟩ := List.mem_map.mp hd
    simp [nRow, imm, immAll, imm_tD]
  have lo := p.elen
  have ln := p.llen
  have wl := p.wf.later_len
  have we := p.wf.sz
  unfold tRet tTup tCons
  refine lcMap (l := l1) (xs := os.map fun x => V.ref x.1) (ds := oRows L) (fun Q hq => ⟨_, rfl, a, T.c_Ledgers, da, _, _, rfl, p.ob, T.cl_Ledgers, T.na_Ledgers_elder, rfl, hq⟩) (SqL.of p.e) (by simp [oRows, lo]) (by simp; omega) imo (fun x => rfl) ?_ ?_
  · intro j x d' H' hx hd s
    rw [List.getElem?_map] at hx
    obtain ⟨y, hy, rfl⟩ := Option.map_eq_some_iff.mp hx
    obtain ⟨dx, hdx⟩ := p.po j y hy
    have e : d' = oRow ((j : Int) + 1) y.2 := by
      rw [oRows, List.getElem?_mapIdx, p.el, List.getElem?_map, hy] at hd
      exact (Option.some.inj hd).symm
    subst e
    intro H1 s1 Q q
    exact ⟨_, rfl, y.1, dx, _, rfl, s1 _ _ (s _ _ hdx), rfl, y.1, dx, _, _, rfl, s1 _ _ (s _ _ hdx), q⟩
  intro e xs H1 ne s1 he hxs
  refine lcMap (l := l2) (xs := ns.map fun x => V.ref x.1) (ds := nRows L) (fun Q hq => ⟨_, rfl, a, T.c_Ledgers, da, _, _, rfl, s1 _ _ p.ob, T.cl_Ledgers, T.na_Ledgers_later, rfl, hq⟩) (SqL.of (s1 _ _ p.n)) (by simp [nRows, ln]) (by simp; omega) imn (fun x => rfl) ?_ ?_
  · intro j x d' H' hx hd s
    rw [List.getElem?_map] at hx
    obtain ⟨y, hy, rfl⟩ := Option.map_eq_some_iff.mp hx
    obtain ⟨⟨dx, hdx⟩, _⟩ := p.qo y (List.mem_of_getElem? hy)
    have e : d' = nRow y.2.2 := by
      rw [nRows, List.getElem?_map, p.la, List.getElem?_map, hy] at hd
      exact (Option.some.inj hd).symm
    subst e
    intro H2 s2 Q q
    have hdx' := s2 _ _ (s _ _ (s1 _ _ hdx))
    exact ⟨_, rfl, y.1, dx, _, rfl, hdx', rfl, y.1, dx, _, _, rfl, hdx', q⟩
  intro f ys H2 nf s2 hf hys
  refine ⟨line_of (by show 2 ≤ 100000; decide), fun t ht => ?_⟩
  have s3 := Same.new (o := .tup [.ref e, .ref f]) ht
  exact q t e f xs ys _ ((s1.trans s2).trans s3) (s1.free (s2.free ht)) ne (s1.free nf) (ne_of_none he nf) upd_same (s3 _ _ (s2 _ _ he)) (s3 _ _ hf) (s3.dpAll (s2.dpAll hxs)) (s3.dpAll hys)
theorem ok_set_field (T : Tx K mg) : FnOk P w K mg base CX0 1 T.Ledgers_set_field.a T.Ledgers_set_field.fd ["self", "line", "deed"] (spSetField K T.c_OldLine) := by
  refine T.Ledgers_set_field.F.ok sc_Ledgers_set_field (fun vs H Q E h => by obtain ⟨sv, x, dx, p, n, o, e, rfl, _⟩ := h; rfl) (fun cdv A outer s H vs Q E hr h => ?_)
  obtain ⟨sv, x, dx, p, n, o, e, rfl, hx, hp, he, q⟩ := h
  refine ⟨_, (pss_one (ps_if (pt_cmpR op_eq (pe_ix (ix_tupK K) (pv 2) pe_int (fun _ _ => rfl)) pe_str (nomark _))
  (pss_one (ps_fldK K (pv 1) pe_bl rfl))
  (pss_one (ps_if (pt_cmpR op_eq (pe_ix (ix_tupK K) (pv 2) pe_int (fun _ _ => rfl)) pe_str (nomark _))
  (pss_one (ps_fldK K (pv 1) (pe_ix (ix_tupK K) (pv 2) pe_int (fun _ _ => rfl)) rfl))
  (pss_one (ps_if (pt_cmpR op_eq (pe_ix (ix_tupK K) (pv 2) pe_int (fun _ _ => rfl)) pe_str (nomark _))
  (pss_one (ps_fldK K (pv 1) (pe_ix (ix_tupK K) (pv 2) pe_int (fun _ _ => rfl)) rfl))
  (pss_one (ps_fldK K (pv 1) (pe_ix (ix_tupK K) (pv 2) pe_int (fun _ _ => rfl)) rfl)))))))), ?_⟩
  have i0 : atI (dV e) 0 = some ((dV e).getD 0 .non) := by cases e <;> rfl
  cases e with
  | fin m =>
    refine ⟨_, rfl, p, _, 0, .str "end", rfl, rfl, hp, rfl, rfl, _, rfl, iteT' rfl ?_⟩
    refine ⟨_, rfl, x, T.c_OldLine, dx, _, rfl, hx, T.cl_OldLine, T.na_OldLine_standing, of_decide_eq_true rfl, ?_⟩
    exact q
  | label m l =>
    refine ⟨_, rfl, p, _, 0, .str "label", rfl, rfl, hp, rfl, rfl, _, rfl, iteF' rfl ?_⟩
    refine ⟨_, rfl, p, _, 0, .str "label", rfl, rfl, hp, rfl, rfl, _, rfl, iteT' rfl ?_⟩
    refine ⟨_, rfl, p, _, 2, .int l, rfl, rfl, hp, rfl, _, rfl, x, T.c_OldLine, dx, _, rfl, hx, T.cl_OldLine, T.na_OldLine_label, of_decide_eq_true rfl, ?_⟩
    exact q
  | moves m l =>
    refine ⟨_, rfl, p, _, 0, .str "moves", rfl, rfl, hp, rfl, rfl, _, rfl, iteF' rfl ?_⟩
    refine ⟨_, rfl, p, _, 0, .str "moves", rfl, rfl, hp, rfl, rfl, _, rfl, iteF' rfl ?_⟩
    refine ⟨_, rfl, p, _, 0, .str "moves", rfl, rfl, hp, rfl, rfl, _, rfl, iteT' rfl ?_⟩
    refine ⟨_, rfl, p, _, 2, .int l, rfl, rfl, hp, rfl, _, rfl, x, T.c_OldLine, dx, _, rfl, hx, T.cl_OldLine, T.na_OldLine_moves, of_decide_eq_true rfl, ?_⟩
    exact q
  | tie m l =>
    refine ⟨_, rfl, p, _, 0, .str "tie", rfl, rfl, hp, rfl, rfl, _, rfl, iteF' rfl ?_⟩
    refine ⟨_, rfl, p, _, 0, .str "tie", rfl, rfl, hp, rfl, rfl, _, rfl, iteF' rfl ?_⟩
    refine ⟨_, rfl, p, _, 0, .str "tie", rfl, rfl, hp, rfl, rfl, _, rfl, iteF' rfl ?_⟩
    refine ⟨_, rfl, p, _, 2, tv l, rfl, rfl, hp, rfl, _, rfl, x, T.c_OldLine, dx, _, rfl, hx, T.cl_OldLine, T.na_OldLine_tie, of_decide_eq_true rfl, ?_⟩
    exact q
  | _ => simp [isSet] at he
theorem ok_new_line (T : Tx K mg) : FnOk P w K mg base CX0 1 T.Ledgers_new_line.a T.Ledgers_new_line.fd ["self", "number"] (spNewLine (c3 T)) := by
  refine T.Ledgers_new_line.F.ok sc_Ledgers_new_line (fun vs H Q E h => by obtain ⟨a, n, S, L, B, da, l1, l2, l3, d, os, ns, rfl, _⟩ := h; rfl) (fun cdv A outer s H vs Q E hr h => ?_)
  obtain ⟨a, n, S, L, B, da, l1, l2, l3, d, os, ns, rfl, p, hB, q⟩ := h
  refine ⟨_, (pss_cons (ps_setLc (i := 2) (own := [("line", 3)]) (g := (gName 3)) (tt := _) rfl sc_Ledgers_new_line.nd rfl rfl (sw_true rfl rfl rfl (by decide +kernel)) (pi_listK K (pe_fldK K (pv 0) rfl)) (blkOk_by (N := ["self", "number", "found", "line"]) (sc := defScope s_Ledgers_new_line) (by decide +kernel)) (fun _ _ _ _ _ => pg_name (i := 3) sc_Ledgers_new_line.nd rfl (Or.inl rfl)) (fun _ _ _ _ _ => pts_one (pt_cmpR op_eq (pe_fldK K (pv 3) rfl) (pv 1) (nomark _))) (fun _ _ _ _ _ => (pv 3)))
  (pss_one (ps_ret (pe_ifExp (pt_cmpR (op_neE K (hu65 hr)) (pv 2) (pe_lst pa_nil) (nomark _)) (pe_ix (ix_listK K) (pv 2) pe_int (fun _ _ => rfl)) pe_non)))), ?_⟩
  have wl := p.wf.later_len
  have ln := p.llen
  unfold tSeq tAsg
  refine lcFM (l := l2) ns (fun x => V.ref x.1) (fun x => V.ref x.1) (fun x => decide (x.2.2.number = n)) (fun Q hq => ⟨_, rfl, a, T.c_Ledgers, da, _, _, rfl, p.ob, T.cl_Ledgers, T.na_Ledgers_later, rfl, hq⟩) (SqL.of p.n) (by omega) (fun x => rfl) ?_ ?_ ?_
  · intro j x H' hx s R hR
    obtain ⟨⟨dx, h1⟩, _⟩ := p.qo x (List.mem_of_getElem? hx)
    refine ⟨_, rfl, x.1, T.c_NewLine, dx, _, _, rfl, s _ _ h1, T.cl_NewLine, T.na_NewLine_number, rfl, _, rfl, rfl, _, rfl, ?_⟩
    have e : decide (V.int x.2.2.number = V.int n) = decide (x.2.2.number = n) := by simp
    rw [e]; exact hR H' (Same.refl H')
  · intro j x H' hx hf s R hR
    exact ⟨_, rfl, hR H' (Same.refl H')⟩
  intro D H' nD s hD
  refine ⟨_, rfl, line_of (Nat.zero_le _), fun e ne => ?_⟩
  have s2 : Same H (upd H' e (.lst [])) := s.trans (Same.new ne)
  obtain ⟨q1, q2⟩ := q _ s2
  refine ⟨D, e, _, rfl, rfl, SqL.of (Same.new ne _ _ hD), SqL.of upd_same, _, rfl, ?_⟩
  cases hf : ns.filter (fun x => decide (x.2.2.number = n)) with
  | nil =>
    refine iteF' rfl (q2 fun x hx e => ?_)
    have : x ∈ ns.filter (fun x => decide (x.2.2.number = n)) := List.mem_filter.mpr ⟨hx, decide_eq_true e⟩
    rw [hf] at this; cases this
  | cons x r =>
    rw [hf] at hD
    have hx : x ∈ ns.filter (fun x => decide (x.2.2.number = n)) := by rw [hf]; simp
    refine iteT' rfl ⟨_, rfl, D, _, 0, .ref x.1, rfl, rfl, SqL.of (Same.new ne _ _ hD), atI_nat (j := 0) rfl, ?_⟩
    exact q1 x (List.mem_filter.mp hx).1 (of_decide_eq_true (List.mem_filter.mp hx).2)
theorem ok_check (T : Tx K mg) : FnOk P w K mg base CX0 2 T.Ledgers_check.a T.Ledgers_check.fd ["self", "deed", "index"] (spCheck K (c3 T)) := by
  have G_Ledgers_old_line := ok_old_line (P := P) (w := w) (base := base) T
  have G_Ledgers_new_line := ok_new_line (P := P) (w := w) (base := base) T
  refine T.Ledgers_check.F.ok sc_Ledgers_check (fun vs H Q E h => by obtain ⟨a, p, iv, S, L, B, e, rfl, _⟩ := h; rfl) (fun cdv A outer s H vs Q E hr h => ?_)
  obtain ⟨a, p, iv, S, L, B, e, rfl, ⟨da, l1, l2, l3, d, os, ns, lp⟩, hB, hp, ok, q⟩ := h
  refine ⟨_, (pss_cons (ps_set (i := 3) sc_Ledgers_check.nd rfl (Or.inl rfl) (pe_ix (ix_tupK K) (pv 1) pe_int (fun _ _ => rfl)))
  (C8.pss_cut (ps_if (pt_cmpR (op_inTDK K (hu65 hr)) (pv 3) (pe_tup (pa_cons pe_str (pa_cons pe_str (pa_cons pe_str (pa_cons pe_str pa_nil))))) (by rfl))
  (pss_cons (ps_set (i := 4) sc_Ledgers_check.nd rfl (Or.inl rfl) (pe_ifExp (pt_cmpR op_eq (pv 3) pe_str (nomark _)) (pe_lst (pa_cons (pe_ix (ix_tupK K) (pv 1) pe_int (fun _ _ => rfl)) (pa_cons (pe_ix (ix_tupK K) (pv 1) pe_int (fun _ _ => rfl)) pa_nil))) (pe_lst (pa_cons (pe_ix (ix_tupK K) (pv 1) pe_int (fun _ _ => rfl)) pa_nil))))
  (pss_one (ps_setLc (i := 5) (own := [("number", 6)]) (g := (gName 6)) (tt := _) rfl sc_Ledgers_check.nd rfl rfl (sw_true rfl rfl rfl (by decide +kernel)) (pi_listK K (pv 4)) (blkOk_by (N := ["self", "deed", "index", "word", "numbers", "lacking", "number"]) (sc := defScope s_Ledgers_check) (by decide +kernel)) (fun _ _ _ _ _ => pg_name (i := 6) sc_Ledgers_check.nd rfl (Or.inl rfl)) (fun _ _ _ _ _ => pts_one (PW.pt (pw_and (pt_cmpR op_notN (pv 6) pe_non (nomark _)) (pw_and1 (pt_cmpR op_isN (pe_meth (pv 0) T.cl_Ledgers T.Ledgers_old_line.m G_Ledgers_old_line (hr.mono (by first | decide | omega)) T.Ledgers_old_line.b .nil pass0 (pa_cons (pv 6) pa_nil)) pe_non (nomark _)))))) (fun _ _ _ _ _ => (pv 6)))))
  (pss_one (ps_if (pt_cmpR (op_inTDK K (hu65 hr)) (pv 3) (pe_tup (pa_cons pe_str (pa_cons pe_str (pa_cons pe_str pa_nil)))) (by rfl))
  (pss_cons (ps_set (i := 4) sc_Ledgers_check.nd rfl (Or.inl rfl) (pe_ifExp (pt_cmpR op_eq (pv 3) pe_str (nomark _)) (pe_lst (pa_cons (pe_ix (ix_tupK K) (pv 1) pe_int (fun _ _ => rfl)) (pa_cons (pe_ix (ix_tupK K) (pv 1) pe_int (fun _ _ => rfl)) pa_nil))) (pe_lst (pa_cons (pe_ix (ix_tupK K) (pv 1) pe_int (fun _ _ => rfl)) pa_nil))))
  (pss_one (ps_setLc (i := 5) (own := [("number", 6)]) (g := (gName 6)) (tt := _) rfl sc_Ledgers_check.nd rfl rfl (sw_true rfl rfl rfl (by decide +kernel)) (pi_listK K (pv 4)) (blkOk_by (N := ["self", "deed", "index", "word", "numbers", "lacking", "number"]) (sc := defScope s_Ledgers_check) (by decide +kernel)) (fun _ _ _ _ _ => pg_name (i := 6) sc_Ledgers_check.nd rfl (Or.inl rfl)) (fun _ _ _ _ _ => pts_one (PW.pt (pw_and (pt_cmpR op_notN (pv 6) pe_non (nomark _)) (pw_and1 (pt_cmpR op_isN (pe_meth (pv 0) T.cl_Ledgers T.Ledgers_new_line.m G_Ledgers_new_line (hr.mono (by first | decide | omega)) T.Ledgers_new_line.b .nil pass0 (pa_cons (pv 6) pa_nil)) pe_non (nomark _)))))) (fun _ _ _ _ _ => (pv 6)))))
  (pss_one (ps_set (i := 5) sc_Ledgers_check.nd rfl (Or.inl rfl) (pe_lst pa_nil))))))
  (pss_one (ps_if (pt_cmpR (op_neE K (hu65 hr)) (pv 5) (pe_lst pa_nil) (nomark _))
  (pss_one ps_never)
  pss_nil)))), ?_⟩
  have shO : SeqAt.shaped (.tuple ((["label", "moves", "tie", "end"] : List Str).map .str)) = true := by decide +kernel
  have shN : SeqAt.shaped (.tuple ((["write label", "write moves", "write tie"] : List Str).map .str)) = true := by decide +kernel
  have gO : ∀ (σ : St) (H : Hp), Gv K (tTup (tCons (tC (.str "label")) (tCons (tC (.str "moves")) (tCons (tC (.str "tie")) (tCons (tC (.str "end")) tNil))))) σ H (.tuple ((["label", "moves", "tie", "end"] : List Str).map .str)) := fun σ H => gv_tup (gs_cons gv_str (gs_cons gv_str (gs_cons gv_str (gs_cons gv_str gs_nil)))) (by simp)
  have gN : ∀ (σ : St) (H : Hp), Gv K (tTup (tCons (tC (.str "write label")) (tCons (tC (.str "write moves")) (tCons (tC (.str "write tie")) tNil)))) σ H (.tuple ((["write label", "write moves", "write tie"] : List Str).map .str)) := fun σ H => gv_tup (gs_cons gv_str (gs_cons gv_str (gs_cons gv_str gs_nil))) (by simp)
  have cO : ∀ (np : Addr) (w : V) (ms : List (Option Int)) (H1 : Hp) (Q : VK), Same H H1 → H1 np = some (.lst (ms.map tv)) → ms.length ≤ 2 → (∀ m ∈ ms, ∀ k, m = some k → inO L k) → (∀ D H', Same H1 H' → H' D = some (.lst []) → Q (.ref D) H') →
      tLc (iList K (tVar 4)) (gName 6) (tAnd (tTest (tOp (fun x y H Q => y = V.non ∧ Q (V.bl !decide (x = V.non)) H) (tVar 6) (tC V.non))) (tTest (tOp (fun x y H Q => y = V.non ∧ Q (V.bl (decide (x = V.non))) H) (tMeth T.c_Ledgers "old_line" (spOldLine T.c_Ledgers) [] E0 (tVar 0) (tCons (tVar 6) tNil)) (tC V.non)))) (tVar 6) [6]
        [some (.ref a), some (.ref p), some iv, some w, some (.ref np), none, none] H1 Q := by
    intro np w ms H1 Q s1 hnp hms hok q
    refine lcFM (l := np) ms tv tv (fun _ => false) (fun Q hq => ⟨_, rfl, hq⟩) (SqL.of hnp) (by omega) (fun x => rfl) ?_ (fun _ _ _ _ h => by cases h) ?_
    · intro j m H' hm s R hR
      refine ⟨_, rfl, rfl, _, rfl, ?_⟩
      cases m with
      | none => exact iteF' rfl (hR H' (Same.refl H'))
      | some k =>
        have hk := hok (some k) (List.mem_of_getElem? hm) k rfl
        have sl := s1.trans s
        refine iteT' rfl ⟨_, rfl, a, da, _, rfl, sl _ _ lp.ob, rfl, _, rfl, a, da, l1, l2, l3, d, L.ever, k, _, rfl, sl _ _ lp.ob, sl _ _ lp.e, ?_, ?_⟩
        · intro j v e hv
          rw [List.getElem?_map] at hv
          obtain ⟨y, _, rfl⟩ := Option.map_eq_some_iff.mp hv
          exact ⟨rfl, _, rfl, hR H' (Same.refl H')⟩
        · intro hn
          exfalso
          refine hn ?_
          rw [List.length_map, ← lp.elen]; exact hk
    · intro D H' nD s hD
      refine q D H' s ?_
      rw [hD]; simp
  have cN : ∀ (np : Addr) (w : V) (ms : List (Option Int)) (H1 : Hp) (Q : VK), Same H H1 → H1 np = some (.lst (ms.map tv)) → ms.length ≤ 2 → (∀ m ∈ ms, ∀ k, m = some k → inN L k) → (∀ D H', Same H1 H' → H' D = some (.lst []) → Q (.ref D) H') →
      tLc (iList K (tVar 4)) (gName 6) (tAnd (tTest (tOp (fun x y H Q => y = V.non ∧ Q (V.bl !decide (x = V.non)) H) (tVar 6) (tC V.non))) (tTest (tOp (fun x y H Q => y = V.non ∧ Q (V.bl (decide (x = V.non))) H) (tMeth T.c_Ledgers "new_line" (spNewLine (c3 T)) [] E0 (tVar 0) (tCons (tVar 6) tNil)) (tC V.non)))) (tVar 6) [6]
        [some (.ref a), some (.ref p), some iv, some w, some (.ref np), none, none] H1 Q := by
    intro np w ms H1 Q s1 hnp hms hok q
    refine lcFM (l := np) ms tv tv (fun _ => false) (fun Q hq => ⟨_, rfl, hq⟩) (SqL.of hnp) (by omega) (fun x => rfl) ?_ (fun _ _ _ _ h => by cases h) ?_
    · intro j m H' hm s R hR
      refine ⟨_, rfl, rfl, _, rfl, ?_⟩
      cases m with
      | none => exact iteF' rfl (hR H' (Same.refl H'))
      | some k =>
        have hk := hok (some k) (List.mem_of_getElem? hm) k rfl
        have sl := s1.trans s
        refine iteT' rfl ⟨_, rfl, a, da, _, rfl, sl _ _ lp.ob, rfl, _, rfl, a, k, S, L, B, da, l1, l2, l3, d, os, ns, rfl, lp.same sl, hB, fun H2 s2 => ⟨fun x hx e => ⟨rfl, _, rfl, hR H2 s2⟩, fun hn => ?_⟩⟩
        exfalso
        unfold inN nums at hk
        rw [lp.la, List.map_map] at hk
        obtain ⟨x, hx, e⟩ := List.mem_map.mp hk
        exact hn x hx e
    · intro D H' nD s hD
      refine q D H' s ?_
      rw [hD]; simp
  have fin : ∀ (w : V) (v4 : Option V) (H' : Hp) (D : Addr), Same H H' → H' D = some (.lst []) → tIfS (tTest (tOp (rNeE K) (tVar 5) (tLst tNil))) tNever tNext { nx := fun x H' => Q V.non H', rt := Q } [some (.ref a), some (.ref p), some iv, some w, v4, some (.ref D), none] H' := by
    intro w v4 H' D s hD
    refine ⟨_, rfl, line_of (Nat.zero_le _), fun e ne => ?_⟩
    exact ⟨D, e, [], rfl, rfl, SqL.of (Same.new ne _ _ hD), SqL.of upd_same, _, rfl, iteF' rfl (q _ (s.trans (Same.new ne)))⟩
  cases e with
  | label n l =>
    refine ⟨_, rfl, p, _, 0, .str "label", rfl, rfl, hp, rfl, ?_⟩
    refine ⟨fun σ' H' => Same H H' ∧ ∃ v4 D, σ' = [some (.ref a), some (.ref p), some iv, some (.str "label"), v4, some (.ref D), none] ∧ H' D = some (.lst []), ?_, fun σ' H' ⟨s, v4, D, e, hD⟩ => by subst e; exact fin _ _ _ _ s hD⟩
    refine inS (ws := ["label", "moves", "tie", "end"]) (gv_varS rfl) (gO _ _) (by decide +kernel) shO fun H1 s1 => iteT' (by decide) ?_
    refine ⟨_, rfl, rfl, _, rfl, iteF' rfl ⟨_, rfl, p, _, 1, .int n, rfl, rfl, s1.sqT hp, rfl, line_of (by show 1 ≤ 100000; decide), fun np nn => ?_⟩⟩
    dsimp only [gName_app, tAsg_app]
    refine cO np _ [some n] _ _ (s1.add nn) upd_same (by simp) (fun m hm k e => by cases List.mem_singleton.mp hm; cases e; exact ok) fun D H2 s2 hD => ?_
    exact ⟨(s1.add nn).trans s2, _, D, rfl, hD⟩
  | moves n l =>
    refine ⟨_, rfl, p, _, 0, .str "moves", rfl, rfl, hp, rfl, ?_⟩
    refine ⟨fun σ' H' => Same H H' ∧ ∃ v4 D, σ' = [some (.ref a), some (.ref p), some iv, some (.str "moves"), v4, some (.ref D), none] ∧ H' D = some (.lst []), ?_, fun σ' H' ⟨s, v4, D, e, hD⟩ => by subst e; exact fin _ _ _ _ s hD⟩
    refine inS (ws := ["label", "moves", "tie", "end"]) (gv_varS rfl) (gO _ _) (by decide +kernel) shO fun H1 s1 => iteT' (by decide) ?_
    refine ⟨_, rfl, rfl, _, rfl, iteF' rfl ⟨_, rfl, p, _, 1, .int n, rfl, rfl, s1.sqT hp, rfl, line_of (by show 1 ≤ 100000; decide), fun np nn => ?_⟩⟩
    dsimp only [gName_app, tAsg_app]
    refine cO np _ [some n] _ _ (s1.add nn) upd_same (by simp) (fun m hm k e => by cases List.mem_singleton.mp hm; cases e; exact ok) fun D H2 s2 hD => ?_
    exact ⟨(s1.add nn).trans s2, _, D, rfl, hD⟩
  | tie n m =>
    refine ⟨_, rfl, p, _, 0, .str "tie", rfl, rfl, hp, rfl, ?_⟩
    refine ⟨fun σ' H' => Same H H' ∧ ∃ v4 D, σ' = [some (.ref a), some (.ref p), some iv, some (.str "tie"), v4, some (.ref D), none] ∧ H' D = some (.lst []), ?_, fun σ' H' ⟨s, v4, D, e, hD⟩ => by subst e; exact fin _ _ _ _ s hD⟩
    refine inS (ws := ["label", "moves", "tie", "end"]) (gv_varS rfl) (gO _ _) (by decide +kernel) shO fun H1 s1 => iteT' (by decide) ?_
    refine ⟨_, rfl, rfl, _, rfl, iteT' rfl ⟨_, rfl, p, _, 1, .int n, rfl, rfl, s1.sqT hp, rfl, _, rfl, p, _, 2, tv m, rfl, rfl, s1.sqT hp, rfl, line_of (by show 2 ≤ 100000; decide), fun np nn => ?_⟩⟩
    dsimp only [gName_app, tAsg_app]
    refine cO np _ [some n, m] _ _ (s1.add nn) upd_same (by simp) (fun k hk j e => (List.mem_cons.mp hk).elim (fun h => by rw [h] at e; cases e; exact ok.1) fun h => by rw [List.mem_singleton.mp h] at e; exact ok.2 j e) fun D H2 s2 hD => ?_
    exact ⟨(s1.add nn).trans s2, _, D, rfl, hD⟩
  | fin n =>
    refine ⟨_, rfl, p, _, 0, .str "end", rfl, rfl, hp, rfl, ?_⟩
    refine ⟨fun σ' H' => Same H H' ∧ ∃ v4 D, σ' = [some (.ref a), some (.ref p), some iv, some (.str "end"), v4, some (.ref D), none] ∧ H' D = some (.lst []), ?_, fun σ' H' ⟨s, v4, D, e, hD⟩ => by subst e; exact fin _ _ _ _ s hD⟩
    refine inS (ws := ["label", "moves", "tie", "end"]) (gv_varS rfl) (gO _ _) (by decide +kernel) shO fun H1 s1 => iteT' (by decide) ?_
    refine ⟨_, rfl, rfl, _, rfl, iteF' rfl ⟨_, rfl, p, _, 1, .int n, rfl, rfl, s1.sqT hp, rfl, line_of (by show 1 ≤ 100000; decide), fun np nn => ?_⟩⟩
    dsimp only [gName_app, tAsg_app]
    refine cO np _ [some n] _ _ (s1.add nn) upd_same (by simp) (fun m hm k e => by cases List.mem_singleton.mp hm; cases e; exact ok) fun D H2 s2 hD => ?_
    exact ⟨(s1.add nn).trans s2, _, D, rfl, hD⟩
  | wlabel n l =>
    refine ⟨_, rfl, p, _, 0, .str "write label", rfl, rfl, hp, rfl, ?_⟩
    refine ⟨fun σ' H' => Same H H' ∧ ∃ v4 D, σ' = [some (.ref a), some (.ref p), some iv, some (.str "write label"), v4, some (.ref D), none] ∧ H' D = some (.lst []), ?_, fun σ' H' ⟨s, v4, D, e, hD⟩ => by subst e; exact fin _ _ _ _ s hD⟩
    refine inS (ws := ["label", "moves", "tie", "end"]) (gv_varS rfl) (gO _ _) (by decide +kernel) shO fun H0 s0 => iteF' (by decide) ?_
    refine inS (ws := ["write label", "write moves", "write tie"]) (gv_varS rfl) (gN _ _) (by decide +kernel) shN fun H1 s01 => ?_
    have s1 := s0.trans s01
    refine iteT' (by decide) ?_
    refine ⟨_, rfl, rfl, _, rfl, iteF' rfl ⟨_, rfl, p, _, 1, .int n, rfl, rfl, s1.sqT hp, rfl, line_of (by show 1 ≤ 100000; decide), fun np nn => ?_⟩⟩
    dsimp only [gName_app, tAsg_app]
    refine cN np _ [some n] _ _ (s1.add nn) upd_same (by simp) (fun m hm k e => by cases List.mem_singleton.mp hm; cases e; exact ok) fun D H2 s2 hD => ?_
    exact ⟨(s1.add nn).trans s2, _, D, rfl, hD⟩
  | wmoves n l =>
    refine ⟨_, rfl, p, _, 0, .str "write moves", rfl, rfl, hp, rfl, ?_⟩
    refine ⟨fun σ' H' => Same H H' ∧ ∃ v4 D, σ' = [some (.ref a), some (.ref p), some iv, some (.str "write moves"), v4, some (.ref D), none] ∧ H' D = some (.lst []), ?_, fun σ' H' ⟨s, v4, D, e, hD⟩ => by subst e; exact fin _ _ _ _ s hD⟩
    refine inS (ws := ["label", "moves", "tie", "end"]) (gv_varS rfl) (gO _ _) (by decide +kernel) shO fun H0 s0 => iteF' (by decide) ?_
    refine inS (ws := ["write label", "write moves", "write tie"]) (gv_varS rfl) (gN _ _) (by decide +kernel) shN fun H1 s01 => ?_
    have s1 := s0.trans s01
    refine iteT' (by decide) ?_
    refine ⟨_, rfl, rfl, _, rfl, iteF' rfl ⟨_, rfl, p, _, 1, .int n, rfl, rfl, s1.sqT hp, rfl, line_of (by show 1 ≤ 100000; decide), fun np nn => ?_⟩⟩
    dsimp only [gName_app, tAsg_app]
    refine cN np _ [some n] _ _ (s1.add nn) upd_same (by simp) (fun m hm k e => by cases List.mem_singleton.mp hm; cases e; exact ok) fun D H2 s2 hD => ?_
    exact ⟨(s1.add nn).trans s2, _, D, rfl, hD⟩
  | wtie n m =>
    refine ⟨_, rfl, p, _, 0, .str "write tie", rfl, rfl, hp, rfl, ?_⟩
    refine ⟨fun σ' H' => Same H H' ∧ ∃ v4 D, σ' = [some (.ref a), some (.ref p), some iv, some (.str "write tie"), v4, some (.ref D), none] ∧ H' D = some (.lst []), ?_, fun σ' H' ⟨s, v4, D, e, hD⟩ => by subst e; exact fin _ _ _ _ s hD⟩
    refine inS (ws := ["label", "moves", "tie", "end"]) (gv_varS rfl) (gO _ _) (by decide +kernel) shO fun H0 s0 => iteF' (by decide) ?_
    refine inS (ws := ["write label", "write moves", "write tie"]) (gv_varS rfl) (gN _ _) (by decide +kernel) shN fun H1 s01 => ?_
    have s1 := s0.trans s01
    refine iteT' (by decide) ?_
    refine ⟨_, rfl, rfl, _, rfl, iteT' rfl ⟨_, rfl, p, _, 1, .int n, rfl, rfl, s1.sqT hp, rfl, _, rfl, p, _, 2, tv m, rfl, rfl, s1.sqT hp, rfl, line_of (by show 2 ≤ 100000; decide), fun np nn => ?_⟩⟩
    dsimp only [gName_app, tAsg_app]
    refine cN np _ [some n, m] _ _ (s1.add nn) upd_same (by simp) (fun k hk j e => (List.mem_cons.mp hk).elim (fun h => by rw [h] at e; cases e; exact ok.1) fun h => by rw [List.mem_singleton.mp h] at e; exact ok.2 j e) fun D H2 s2 hD => ?_
    exact ⟨(s1.add nn).trans s2, _, D, rfl, hD⟩
  | add l m =>
    refine ⟨_, rfl, p, _, 0, .str "add", rfl, rfl, hp, rfl, ?_⟩
    refine ⟨fun σ' H' => Same H H' ∧ ∃ v4 D, σ' = [some (.ref a), some (.ref p), some iv, some (.str "add"), v4, some (.ref D), none] ∧ H' D = some (.lst []), ?_, fun σ' H' ⟨s, v4, D, e, hD⟩ => by subst e; exact fin _ _ _ _ s hD⟩
    refine inS (ws := ["label", "moves", "tie", "end"]) (gv_varS rfl) (gO _ _) (by decide +kernel) shO fun H0 s0 => iteF' (by decide) ?_
    refine inS (ws := ["write label", "write moves", "write tie"]) (gv_varS rfl) (gN _ _) (by decide +kernel) shN fun H1 s01 => ?_
    have s1 := s0.trans s01
    refine iteF' (by decide) ⟨line_of (Nat.zero_le _), fun D nD => ?_⟩
    exact ⟨s1.add nD, none, D, rfl, upd_same⟩
  | own l =>
    refine ⟨_, rfl, p, _, 0, .str "own", rfl, rfl, hp, rfl, ?_⟩
    refine ⟨fun σ' H' => Same H H' ∧ ∃ v4 D, σ' = [some (.ref a), some (.ref p), some iv, some (.str "own"), v4, some (.ref D), none] ∧ H' D = some (.lst []), ?_, fun σ' H' ⟨s, v4, D, e, hD⟩ => by subst e; exact fin _ _ _ _ s hD⟩
    refine inS (ws := ["label", "moves", "tie", "end"]) (gv_varS rfl) (gO _ _) (by decide +kernel) shO fun H0 s0 => iteF' (by decide) ?_
    refine inS (ws := ["write label", "write moves", "write tie"]) (gv_varS rfl) (gN _ _) (by decide +kernel) shN fun H1 s01 => ?_
    have s1 := s0.trans s01
    refine iteF' (by decide) ⟨line_of (Nat.zero_le _), fun D nD => ?_⟩
    exact ⟨s1.add nD, none, D, rfl, upd_same⟩
  | run =>
    refine ⟨_, rfl, p, _, 0, .str "run", rfl, rfl, hp, rfl, ?_⟩
    refine ⟨fun σ' H' => Same H H' ∧ ∃ v4 D, σ' = [some (.ref a), some (.ref p), some iv, some (.str "run"), v4, some (.ref D), none] ∧ H' D = some (.lst []), ?_, fun σ' H' ⟨s, v4, D, e, hD⟩ => by subst e; exact fin _ _ _ _ s hD⟩
    refine inS (ws := ["label", "moves", "tie", "end"]) (gv_varS rfl) (gO _ _) (by decide +kernel) shO fun H0 s0 => iteF' (by decide) ?_
    refine inS (ws := ["write label", "write moves", "write tie"]) (gv_varS rfl) (gN _ _) (by decide +kernel) shN fun H1 s01 => ?_
    have s1 := s0.trans s01
    refine iteF' (by decide) ⟨line_of (Nat.zero_le _), fun D nD => ?_⟩
    exact ⟨s1.add nD, none, D, rfl, upd_same⟩
theorem ok_NewLine_init (T : Tx K mg) : FnOk P w K mg base CX0 1 T.NewLine_init.a T.NewLine_init.fd ["self", "number", "label", "start", "source"] (spNInit T.c_NewLine) := by
  refine T.NewLine_init.F.ok sc_NewLine_init (fun vs H Q E h => by obtain ⟨x, dx, n, l, s, src, rfl, _⟩ := h; rfl) (fun cdv A outer s H vs Q E hr h => ?_)
  obtain ⟨x, dx, n, l, st, src, rfl, hx, q⟩ := h
  refine ⟨_, (pss_cons (ps_fldK K (pv 0) (pv 1) rfl)
  (pss_cons (ps_fldK K (pv 0) (pv 2) rfl)
  (pss_cons (ps_fldK K (pv 0) (pv 3) rfl)
  (pss_cons (ps_fldK K (pv 0) (pv 4) rfl)
  (pss_cons (ps_fldK K (pv 0) pe_int rfl)
  (pss_cons (ps_fldK K (pv 0) pe_non rfl)
  (pss_one (ps_fldK K (pv 0) (pe_lst pa_nil) rfl)))))))), ?_⟩
  refine ⟨_, rfl, _, rfl, x, T.c_NewLine, dx, _, rfl, hx, T.cl_NewLine, T.na_NewLine_number, of_decide_eq_true rfl, ?_⟩
  refine ⟨_, rfl, _, rfl, x, T.c_NewLine, dx, _, rfl, upd_same, T.cl_NewLine, T.na_NewLine_label, of_decide_eq_true rfl, ?_⟩
  refine ⟨_, rfl, _, rfl, x, T.c_NewLine, dx, _, rfl, upd_same, T.cl_NewLine, T.na_NewLine_start, of_decide_eq_true rfl, ?_⟩
  refine ⟨_, rfl, _, rfl, x, T.c_NewLine, dx, _, rfl, upd_same, T.cl_NewLine, T.na_NewLine_source, of_decide_eq_true rfl, ?_⟩
  refine ⟨_, rfl, x, T.c_NewLine, dx, _, rfl, upd_same, T.cl_NewLine, T.na_NewLine_moves, of_decide_eq_true rfl, ?_⟩
  refine ⟨_, rfl, x, T.c_NewLine, dx, _, rfl, upd_same, T.cl_NewLine, T.na_NewLine_tie, of_decide_eq_true rfl, ?_⟩
  refine ⟨line_of (Nat.zero_le _), fun t nt => ⟨_, rfl, x, T.c_NewLine, dx, _, rfl, Same.new nt _ _ upd_same, T.cl_NewLine, T.na_NewLine_typed, of_decide_eq_true rfl, ?_⟩⟩
  rw [upd_upd, upd_upd, upd_upd, upd_upd, upd_upd] at nt ⊢
  have n1 := updN nt
  refine q t _ n1.2 upd_same (by rw [upd_ne n1.1, upd_same]) (fun b o hb hne => ?_) fun b hb => ?_
  · rw [upd_ne hne, upd_ne (ne_of_none hb n1.2), upd_ne hne]; exact hb
  · exact (updN (updN (updN hb).2).2).2
theorem ok_put_line (T : Tx K mg) : FnOk P w K mg base CX0 3 T.Ledgers_put_line.a T.Ledgers_put_line.fd ["self", "label", "start", "source"] (spPutLine (c3 T)) := by
  have G_NewLine_init := ok_NewLine_init (P := P) (w := w) (base := base) T
  refine T.Ledgers_put_line.F.ok sc_Ledgers_put_line (fun vs H Q E h => by obtain ⟨a, l, s, src, S, L, B, B', da, l1, l2, l3, d, os, ns, rfl, _⟩ := h; rfl) (fun cdv A outer s H vs Q E hr h => ?_)
  obtain ⟨a, l, st, src, S, L, B, B', da, l1, l2, l3, d, os, ns, rfl, p, wf, hB, q⟩ := h
  refine ⟨_, (pss_cons (ps_fldaug (pv 0) pe_int in_add)
  (pss_cons (ps_expr (pe_bm PySem.F.plainAttrs_list PySem.F.slot_list_append PySem.F.type_list_append mt_append (pe_fldK K (pv 0) rfl) (pa_cons (pe_make T.mk_NewLine G_NewLine_init (hr.mono (by first | decide | omega)) rfl T.g_NewLine T.NewLine_init.b .nil pass0 (pa_cons (pe_fldK K (pv 0) rfl) (pa_cons (pv 1) (pa_cons (pv 2) (pa_cons (pv 3) pa_nil))))) pa_nil)))
  (pss_one (ps_ret (pe_fldK K (pv 0) rfl))))), ?_⟩
  have n3 := nd3 p.ld
  have la : l2 ≠ a := ne_of p.n p.ob (by intro z; cases z)
  refine ⟨_, rfl, a, T.c_Ledgers, da, _, _, rfl, p.ob, T.cl_Ledgers, T.na_Ledgers_ever, rfl, L.ever, 1, rfl, rfl, da, _, p.ob, of_decide_eq_true rfl, ?_⟩
  have h2 : upd H a (.ins T.c_Ledgers da (putF "ever" (.int (L.ever + 1)) (lF l1 l2 l3 d L.ever))) l2 = some (.lst (ns.map fun x => V.ref x.1)) := by rw [upd_ne la]; exact p.n
  refine ⟨_, rfl, a, T.c_Ledgers, da, _, _, rfl, upd_same, T.cl_Ledgers, T.na_Ledgers_later, rfl, .inl ⟨rfl, _, SqL.of h2⟩, ?_⟩
  refine ⟨_, rfl, a, T.c_Ledgers, da, _, _, rfl, upd_same, T.cl_Ledgers, T.na_Ledgers_ever, rfl, _, rfl, _, rfl, _, rfl, fun x dx nx ndx ndx2 => ?_⟩
  have nx0 := updN nx
  have ndx0 := updN ndx
  refine ⟨x, dx, L.ever + 1, l, st, src, rfl, upd_same, fun t H' nt hx' ht' k hd => ⟨rfl, ?_⟩⟩
  have nt1 := updN nt
  have nt2 := updN nt1.2
  have nt3 := updN nt2.2
  have keep : ∀ b o, H b = some o → b ≠ a → H' b = some o := fun b o e n => by
    have nbx : b ≠ x := ne_of_none e nx0.2
    refine k b o ?_ nbx
    rw [upd_ne nbx, upd_ne (ne_of_none e ndx0.2), upd_ne n]; exact e
  have ha' : H' a = some (.ins T.c_Ledgers da (lF l1 l2 l3 d (L.ever + 1))) := by
    refine k a _ ?_ (Ne.symm nx0.1)
    rw [upd_ne (Ne.symm nx0.1), upd_ne (Ne.symm ndx0.1), upd_same]; rfl
  have hl2 := keep _ _ p.n la
  have wl := p.wf.later_len
  have ln := p.llen
  refine ⟨l2, _, .ref x, rfl, rfl, hl2, line_lt (by rw [List.length_map]; omega), ?_⟩
  have ha2 : upd H' l2 (.lst ((ns.map fun x => V.ref x.1) ++ [.ref x])) a = some (.ins T.c_Ledgers da (lF l1 l2 l3 d (L.ever + 1))) := by rw [upd_ne (Ne.symm la)]; exact ha'
  refine ⟨_, rfl, a, T.c_Ledgers, da, _, _, rfl, ha2, T.cl_Ledgers, T.na_Ledgers_ever, rfl, ?_⟩
  have nl2x : l2 ≠ x := ne_of_none p.n nx0.2
  have nl2t : l2 ≠ t := ne_of_none p.n nt3.2
  have hdd : ∀ b, upd H' l2 (.lst ((ns.map fun x => V.ref x.1) ++ [.ref x])) b = none → H b = none := fun b hb => (updN (updN (updN (hd b (updN hb).2)).2).2).2
  have keep2 : ∀ b o, H b = some o → b ≠ a → b ≠ l2 → upd H' l2 (.lst ((ns.map fun x => V.ref x.1) ++ [.ref x])) b = some o := fun b o e n1 n2 => by rw [upd_ne n2]; exact keep b o e n1
  refine q _ (x, t, ⟨L.ever + 1, l, st, src, 0, none, []⟩) ⟨fun b o e n => keep2 b o e (fun z => n (by rw [z]; exact p.sa.1)) (fun z => n (by rw [z]; exact p.sa.2.2.1)), ?_⟩ ?_
  · exact tups_of (p := a) (q := l2) (by rw [p.ob]; trivial) (by rw [p.n]; trivial) keep2
  · exact p.addNew (dx := dx) (by rw [upd_ne (Ne.symm nl2x)]; exact hx') nx0.2 (by rw [upd_ne (Ne.symm nl2t)]; exact ht') nt3.2 rfl ha2 upd_same keep2 hdd wf
theorem ok_write_field (T : Tx K mg) : FnOk P w K mg base CX0 1 T.Ledgers_write_field.a T.Ledgers_write_field.fd ["self", "line", "word", "value"] (spWriteField T.c_NewLine) := by
  refine T.Ledgers_write_field.F.ok sc_Ledgers_write_field (fun vs H Q E h => by obtain ⟨sv, x, dx, t, o, e, rfl, _⟩ := h; rfl) (fun cdv A outer s H vs Q E hr h => ?_)
  obtain ⟨sv, x, dx, t, o, e, rfl, hx, ht, he, hl, q⟩ := h
  refine ⟨_, (pss_one (ps_if (pt_cmpR op_eq (pv 2) pe_str (nomark _))
  (pss_one (ps_fldK K (pv 1) (pv 3) rfl))
  (pss_one (ps_if (pt_cmpR op_eq (pv 2) pe_str (nomark _))
  (pss_cons (ps_fldK K (pv 1) (pv 3) rfl)
  (pss_one (ps_expr (pe_bm PySem.F.plainAttrs_list PySem.F.slot_list_append PySem.F.type_list_append mt_append (pe_fldK K (pv 1) rfl) (pa_cons pe_str pa_nil)))))
  (pss_cons (ps_fldK K (pv 1) (pv 3) rfl)
  (pss_one (ps_expr (pe_bm PySem.F.plainAttrs_list PySem.F.slot_list_append PySem.F.type_list_append mt_append (pe_fldK K (pv 1) rfl) (pa_cons pe_str pa_nil))))))))), ?_⟩
  have hxt : t ≠ x := ne_of ht hx (by intro z; cases z)
  cases e with
  | wmoves m v =>
    refine ⟨_, rfl, rfl, _, rfl, iteT' rfl ⟨_, rfl, _, rfl, x, T.c_NewLine, dx, _, rfl, hx, T.cl_NewLine, T.na_NewLine_moves, of_decide_eq_true rfl, ?_⟩⟩
    exact q _ upd_same (by rw [upd_ne hxt]; exact ht) (fun b u e n _ => by rw [upd_ne n]; exact e) fun b hb => (updN hb).2
  | wlabel m v =>
    refine ⟨_, rfl, rfl, _, rfl, iteF' rfl ⟨_, rfl, rfl, _, rfl, iteT' rfl ⟨_, rfl, _, rfl, x, T.c_NewLine, dx, _, rfl, hx, T.cl_NewLine, T.na_NewLine_label, of_decide_eq_true rfl, ?_⟩⟩⟩
    refine ⟨_, rfl, x, T.c_NewLine, dx, _, _, rfl, upd_same, T.cl_NewLine, T.na_NewLine_typed, rfl, .inl ⟨rfl, _, SqL.of (by rw [upd_ne hxt]; exact ht)⟩, t, _, .str "label", rfl, rfl, by rw [upd_ne hxt]; exact ht, line_lt (by rw [List.length_map]; omega), ?_⟩
    refine q _ (by rw [upd_ne hxt.symm, upd_same]; rfl) (by rw [upd_same]; simp [wrF]) (fun b u e n n2 => by rw [upd_ne n2, upd_ne n]; exact e) fun b hb => (updN (updN hb).2).2
  | wtie m v =>
    refine ⟨_, rfl, rfl, _, rfl, iteF' rfl ⟨_, rfl, rfl, _, rfl, iteF' rfl ⟨_, rfl, _, rfl, x, T.c_NewLine, dx, _, rfl, hx, T.cl_NewLine, T.na_NewLine_tie, of_decide_eq_true rfl, ?_⟩⟩⟩
    refine ⟨_, rfl, x, T.c_NewLine, dx, _, _, rfl, upd_same, T.cl_NewLine, T.na_NewLine_typed, rfl, .inl ⟨rfl, _, SqL.of (by rw [upd_ne hxt]; exact ht)⟩, t, _, .str "tie", rfl, rfl, by rw [upd_ne hxt]; exact ht, line_lt (by rw [List.length_map]; omega), ?_⟩
    refine q _ (by rw [upd_ne hxt.symm, upd_same]; rfl) (by rw [upd_same]; simp [wrF]) (fun b u e n n2 => by rw [upd_ne n2, upd_ne n]; exact e) fun b hb => (updN (updN hb).2).2
  | _ => simp [isWr] at he
theorem ok_play_deed (T : Tx K mg) {spR : Sp} (G_Ledgers_run : FnOk P w K mg base CX0 6 T.Ledgers_run.a T.Ledgers_run.fd ["self", "steps"] spR) : FnOk P w K mg base CX0 7 T.Ledgers_play_deed.a T.Ledgers_play_deed.fd ["self", "steps", "deed"] (spPlayDeed K (c3 T) spR) := by
  have G_Ledgers_old_line := ok_old_line (P := P) (w := w) (base := base) T
  have G_Ledgers_new_line := ok_new_line (P := P) (w := w) (base := base) T
  have G_Ledgers_put_line := ok_put_line (P := P) (w := w) (base := base) T
  have G_Ledgers_set_field := ok_set_field (P := P) (w := w) (base := base) T
  have G_Ledgers_write_field := ok_write_field (P := P) (w := w) (base := base) T
  have G_OldLine_init := ok_OldLine_init (P := P) (w := w) (base := base) T
  refine T.Ledgers_play_deed.F.ok sc_Ledgers_play_deed (fun vs H Q E h => by obtain ⟨a, p, sv, S, L, B, e, rfl, _⟩ := h; rfl) (fun cdv A outer s H vs Q E hr h => ?_)
  obtain ⟨a, p, sv, S, L, B, e, rfl, ⟨da, l1, l2, l3, d, os, ns, lp⟩, hB, hp, ok, q⟩ := h
  refine ⟨_, (pss_cons (ps_set (i := 3) sc_Ledgers_play_deed.nd rfl (Or.inl rfl) (pe_ix (ix_tupK K) (pv 2) pe_int (fun _ _ => rfl)))
  (pss_cons (ps_if (pt_cmpR op_eq (pv 3) pe_str (nomark _))
  (pss_one (ps_ret (pe_meth (pv 0) T.cl_Ledgers T.Ledgers_run.m G_Ledgers_run (hr.mono (by first | decide | omega)) T.Ledgers_run.b .nil pass0 (pa_cons (pv 1) pa_nil))))
  pss_nil)
  (pss_cons (ps_if (pt_cmpR op_eq (pv 3) pe_str (nomark _))
  (pss_cons (ps_expr (pe_bm PySem.F.plainAttrs_list PySem.F.slot_list_append PySem.F.type_list_append mt_append (pe_fldK K (pv 0) rfl) (pa_cons (pe_make T.mk_OldLine G_OldLine_init (hr.mono (by first | decide | omega)) rfl T.g_OldLine T.OldLine_init.b .nil pass0 (pa_cons (pe_op op_add (pe_callB (call_lenK K) (by rfl) T.b_len (by decide +kernel) (pa_cons (pe_fldK K (pv 0) rfl) pa_nil)) pe_int) (pa_cons (pe_ix (ix_tupK K) (pv 2) pe_int (fun _ _ => rfl)) (pa_cons (pe_ix (ix_tupK K) (pv 2) pe_int (fun _ _ => rfl)) pa_nil)))) pa_nil)))
  (pss_one (ps_ret (pe_callB (call_lenK K) (by rfl) T.b_len (by decide +kernel) (pa_cons (pe_fldK K (pv 0) rfl) pa_nil)))))
  pss_nil)
  (pss_cons (ps_if (pt_cmpR op_eq (pv 3) pe_str (nomark _))
  (pss_one (ps_ret (pe_meth (pv 0) T.cl_Ledgers T.Ledgers_put_line.m G_Ledgers_put_line (hr.mono (by first | decide | omega)) T.Ledgers_put_line.b .nil pass0 (pa_cons (pe_ix (ix_tupK K) (pv 2) pe_int (fun _ _ => rfl)) (pa_cons pe_int (pa_cons pe_non pa_nil))))))
  pss_nil)
  (pss_cons (ps_if (pt_val (pe_bm PySem.F.plainAttrs_str PySem.F.slot_str_startswith PySem.F.type_str_startswith mt_startswith (pv 3) (pa_cons pe_str pa_nil)))
  (pss_one (ps_expr (pe_meth (pv 0) T.cl_Ledgers T.Ledgers_write_field.m G_Ledgers_write_field (hr.mono (by first | decide | omega)) T.Ledgers_write_field.b .nil pass0 (pa_cons (pe_meth (pv 0) T.cl_Ledgers T.Ledgers_new_line.m G_Ledgers_new_line (hr.mono (by first | decide | omega)) T.Ledgers_new_line.b .nil pass0 (pa_cons (pe_ix (ix_tupK K) (pv 2) pe_int (fun _ _ => rfl)) pa_nil)) (pa_cons (pv 3) (pa_cons (pe_ix (ix_tupK K) (pv 2) pe_int (fun _ _ => rfl)) pa_nil))))))
  (pss_one (ps_expr (pe_meth (pv 0) T.cl_Ledgers T.Ledgers_set_field.m G_Ledgers_set_field (hr.mono (by first | decide | omega)) T.Ledgers_set_field.b .nil pass0 (pa_cons (pe_meth (pv 0) T.cl_Ledgers T.Ledgers_old_line.m G_Ledgers_old_line (hr.mono (by first | decide | omega)) T.Ledgers_old_line.b .nil pass0 (pa_cons (pe_ix (ix_tupK K) (pv 2) pe_int (fun _ _ => rfl)) pa_nil)) (pa_cons (pv 2) pa_nil))))))
  (pss_one (ps_ret pe_non))))))), ?_⟩
  have n3 := nd3 lp.ld
  have wl := lp.wf.later_len
  have le := lp.elen
  have ln := lp.llen
  have ws := lp.wf.sz
  have inOld : ∀ n, inO L n → ∃ (j : Nat) (x : Addr × OL) (dx : Addr), n = (j : Int) + 1 ∧ os[j]? = some x ∧ L.elder[j]? = some x.2 ∧ H x.1 = some (.ins T.c_OldLine dx (oF ((j : Int) + 1) x.2)) := by
    intro n ⟨h1, h2⟩
    have hj : (n - 1).toNat < os.length := by omega
    have hg := List.getElem?_eq_getElem hj
    obtain ⟨dx, hd⟩ := lp.po _ _ hg
    exact ⟨_, _, dx, by omega, hg, by rw [lp.el, List.getElem?_map, hg]; rfl, hd⟩
  have inNew : ∀ n, inN L n → ∃ (x : Addr × Addr × NL) (dx : Addr), x ∈ ns ∧ x.2.2.number = n ∧ H x.1 = some (.ins T.c_NewLine dx (nF x.2.2 x.2.1)) ∧ H x.2.1 = some (.lst (x.2.2.typed.map V.str)) := by
    intro n hn
    unfold inN nums at hn
    rw [lp.la, List.map_map] at hn
    obtain ⟨x, hx, e⟩ := List.mem_map.mp hn
    obtain ⟨⟨dx, h1⟩, h2⟩ := lp.qo x hx
    exact ⟨x, dx, hx, e, h1, h2⟩
  cases e with
  | run =>
    refine ⟨_, rfl, p, _, 0, .str "run", rfl, rfl, hp, rfl, ?_⟩
    refine ⟨_, rfl, rfl, _, rfl, iteT' rfl ?_⟩
    rcases q with ⟨n, _⟩ | ⟨_, q⟩
    · exact absurd rfl n
    · exact ⟨_, rfl, a, da, _, rfl, lp.ob, rfl, _, rfl, q⟩
  | add l am =>
    have q : ∀ H', Keep S H H' → LedAt (c3 T) S H' a (playM [] L (.add l am)) (B + 1) → Q (retV L (.add l am)) H' := by
      rcases q with ⟨_, q⟩ | ⟨z, _⟩
      · exact q
      · cases z
    refine ⟨_, rfl, p, _, 0, .str "add", rfl, rfl, hp, rfl, ?_⟩
    refine ⟨_, rfl, rfl, _, rfl, iteF' rfl ?_⟩
    refine ⟨_, rfl, rfl, _, rfl, iteT' rfl ?_⟩
    refine ⟨_, rfl, a, T.c_Ledgers, da, _, _, rfl, lp.ob, T.cl_Ledgers, T.na_Ledgers_elder, rfl, .inl ⟨rfl, _, SqL.of lp.e⟩, ?_⟩
    refine ⟨_, rfl, a, T.c_Ledgers, da, _, _, rfl, lp.ob, T.cl_Ledgers, T.na_Ledgers_elder, rfl, _, _, rfl, .inl ⟨_, SqL.of lp.e, rfl⟩, _, _, rfl, rfl, ?_⟩
    refine ⟨_, rfl, p, _, 1, .int l, rfl, rfl, hp, rfl, _, rfl, p, _, 2, .int am, rfl, rfl, hp, rfl, fun x dx nx ndx nd2 => ?_⟩
    refine ⟨x, dx, _, l, am, rfl, upd_same, rfl, ?_⟩
    rw [upd_upd, List.length_map]
    have nl1 : l1 ≠ x := ne_of_none lp.e nx
    have nld : l1 ≠ dx := ne_of_none lp.e ndx
    refine ⟨l1, _, .ref x, rfl, rfl, by rw [upd_ne nl1, upd_ne nld]; exact lp.e, line_lt (by rw [List.length_map]; omega), ?_⟩
    have nax : a ≠ x := ne_of_none lp.ob nx
    have nad : a ≠ dx := ne_of_none lp.ob ndx
    have nal : a ≠ l1 := ne_of lp.ob lp.e (by intro z; cases z)
    have kp : ∀ b o, H b = some o → b ≠ l1 → upd (upd (upd H dx (.own x)) x (.ins T.c_OldLine dx (oF ((os.length : Int) + 1) ⟨l, am, 0, none, true⟩))) l1 (.lst ((os.map fun x => V.ref x.1) ++ [.ref x])) b = some o := fun b o e n => by
      rw [upd_ne n, upd_ne (ne_of_none e nx), upd_ne (ne_of_none e ndx)]; exact e
    refine ⟨_, rfl, a, T.c_Ledgers, da, _, _, rfl, kp _ _ lp.ob nal, T.cl_Ledgers, T.na_Ledgers_elder, rfl, _, _, rfl, .inl ⟨_, SqL.of upd_same, rfl⟩, ?_⟩
    have er : (((os.map fun x => V.ref x.1) ++ [V.ref x]).length : Int) = (L.elder.length : Int) + 1 := by rw [List.length_append, List.length_map, le]; simp
    rw [er]
    refine q _ ⟨fun b o e n => kp b o e (fun z => n (by rw [z]; exact lp.sa.2.1)), tups_of (p := l1) (q := l1) (by rw [lp.e]; trivial) (by rw [lp.e]; trivial) fun b o e n _ => kp b o e n⟩ ⟨_, _, _, _, _, _, _, lp.addOld (dx := dx) (o := ⟨l, am, 0, none, true⟩) (by rw [upd_ne (Ne.symm nl1), upd_same]; rfl) nx upd_same kp (fun b hb => (updN (updN (updN hb).2).2).2) (by omega) (by omega)⟩
  | own l =>
    have q : ∀ H', Keep S H H' → LedAt (c3 T) S H' a (playM [] L (.own l)) (B + 1) → Q (retV L (.own l)) H' := by
      rcases q with ⟨_, q⟩ | ⟨z, _⟩
      · exact q
      · cases z
    refine ⟨_, rfl, p, _, 0, .str "own", rfl, rfl, hp, rfl, ?_⟩
    refine ⟨_, rfl, rfl, _, rfl, iteF' rfl ?_⟩
    refine ⟨_, rfl, rfl, _, rfl, iteF' rfl ?_⟩
    refine ⟨_, rfl, rfl, _, rfl, iteT' rfl ?_⟩
    refine ⟨_, rfl, a, da, _, rfl, lp.ob, rfl, _, rfl, p, _, 1, .int l, rfl, rfl, hp, rfl, ?_⟩
    exact ⟨a, l, 0, none, S, L, B, B + 1, da, l1, l2, l3, d, os, ns, rfl, lp, lp.wf.own l, by omega, fun H' z k h => q H' k ⟨_, _, _, _, _, _, _, h⟩⟩
  | label n l =>
    have q : ∀ H', Keep S H H' → LedAt (c3 T) S H' a (playM [] L (.label n l)) (B + 1) → Q (retV L (.label n l)) H' := by
      rcases q with ⟨_, q⟩ | ⟨z, _⟩
      · exact q
      · cases z
    refine ⟨_, rfl, p, _, 0, .str "label", rfl, rfl, hp, rfl, ?_⟩
    refine ⟨_, rfl, rfl, _, rfl, iteF' rfl ?_⟩
    refine ⟨_, rfl, rfl, _, rfl, iteF' rfl ?_⟩
    refine ⟨_, rfl, rfl, _, rfl, iteF' rfl ?_⟩
    refine ⟨_, rfl, rfl, _, _, rfl, rfl, _, rfl, iteF' (by decide) ?_⟩
    obtain ⟨j, x, dx, en, hj, hL, hx⟩ := inOld n ok
    refine ⟨_, rfl, a, da, _, rfl, lp.ob, rfl, _, rfl, a, da, _, rfl, lp.ob, rfl, _, rfl, p, _, 1, .int n, rfl, rfl, hp, rfl, a, da, l1, l2, l3, d, L.ever, n, _, rfl, lp.ob, lp.e, fun i v ei hv => ?_, fun hn => ?_⟩
    · obtain rfl : i = j := by omega
      rw [List.getElem?_map, hj] at hv
      cases hv
      refine ⟨_, rfl, _, x.1, dx, p, _, x.2, (.label n l), rfl, hx, hp, rfl, ?_⟩
      refine q _ (Keep.mut (lp.so x (List.mem_of_getElem? hj)) (by rw [hx]; trivial)) ?_
      have e := setOld_eq (f := fun o => { o with label := l }) en hL
      show LedAt (c3 T) S _ a (setOld L n _) (B + 1)
      rw [e]
      exact LedP.toA ((lp.upOld (o' := { x.2 with label := l }) hj hx).mono (Nat.le_succ B))
    · exfalso
      rw [List.length_map] at hn
      have := (List.getElem?_eq_some_iff.mp hj).1
      omega
  | moves n l =>
    have q : ∀ H', Keep S H H' → LedAt (c3 T) S H' a (playM [] L (.moves n l)) (B + 1) → Q (retV L (.moves n l)) H' := by
      rcases q with ⟨_, q⟩ | ⟨z, _⟩
      · exact q
      · cases z
    refine ⟨_, rfl, p, _, 0, .str "moves", rfl, rfl, hp, rfl, ?_⟩
    refine ⟨_, rfl, rfl, _, rfl, iteF' rfl ?_⟩
    refine ⟨_, rfl, rfl, _, rfl, iteF' rfl ?_⟩
    refine ⟨_, rfl, rfl, _, rfl, iteF' rfl ?_⟩
    refine ⟨_, rfl, rfl, _, _, rfl, rfl, _, rfl, iteF' (by decide) ?_⟩
    obtain ⟨j, x, dx, en, hj, hL, hx⟩ := inOld n ok
    refine ⟨_, rfl, a, da, _, rfl, lp.ob, rfl, _, rfl, a, da, _, rfl, lp.ob, rfl, _, rfl, p, _, 1, .int n, rfl, rfl, hp, rfl, a, da, l1, l2, l3, d, L.ever, n, _, rfl, lp.ob, lp.e, fun i v ei hv => ?_, fun hn => ?_⟩
    · obtain rfl : i = j := by omega
      rw [List.getElem?_map, hj] at hv
      cases hv
      refine ⟨_, rfl, _, x.1, dx, p, _, x.2, (.moves n l), rfl, hx, hp, rfl, ?_⟩
      refine q _ (Keep.mut (lp.so x (List.mem_of_getElem? hj)) (by rw [hx]; trivial)) ?_
      have e := setOld_eq (f := fun o => { o with moves := l }) en hL
      show LedAt (c3 T) S _ a (setOld L n _) (B + 1)
      rw [e]
      exact LedP.toA ((lp.upOld (o' := { x.2 with moves := l }) hj hx).mono (Nat.le_succ B))
    · exfalso
      rw [List.length_map] at hn
      have := (List.getElem?_eq_some_iff.mp hj).1
      omega
  | tie n l =>
    have q : ∀ H', Keep S H H' → LedAt (c3 T) S H' a (playM [] L (.tie n l)) (B + 1) → Q (retV L (.tie n l)) H' := by
      rcases q with ⟨_, q⟩ | ⟨z, _⟩
      · exact q
      · cases z
    refine ⟨_, rfl, p, _, 0, .str "tie", rfl, rfl, hp, rfl, ?_⟩
    refine ⟨_, rfl, rfl, _, rfl, iteF' rfl ?_⟩
    refine ⟨_, rfl, rfl, _, rfl, iteF' rfl ?_⟩
    refine ⟨_, rfl, rfl, _, rfl, iteF' rfl ?_⟩
    refine ⟨_, rfl, rfl, _, _, rfl, rfl, _, rfl, iteF' (by decide) ?_⟩
    obtain ⟨j, x, dx, en, hj, hL, hx⟩ := inOld n ok.1
    refine ⟨_, rfl, a, da, _, rfl, lp.ob, rfl, _, rfl, a, da, _, rfl, lp.ob, rfl, _, rfl, p, _, 1, .int n, rfl, rfl, hp, rfl, a, da, l1, l2, l3, d, L.ever, n, _, rfl, lp.ob, lp.e, fun i v ei hv => ?_, fun hn => ?_⟩
    · obtain rfl : i = j := by omega
      rw [List.getElem?_map, hj] at hv
      cases hv
      refine ⟨_, rfl, _, x.1, dx, p, _, x.2, (.tie n l), rfl, hx, hp, rfl, ?_⟩
      refine q _ (Keep.mut (lp.so x (List.mem_of_getElem? hj)) (by rw [hx]; trivial)) ?_
      have e := setOld_eq (f := fun o => { o with tie := l }) en hL
      show LedAt (c3 T) S _ a (setOld L n _) (B + 1)
      rw [e]
      exact LedP.toA ((lp.upOld (o' := { x.2 with tie := l }) hj hx).mono (Nat.le_succ B))
    · exfalso
      rw [List.length_map] at hn
      have := (List.getElem?_eq_some_iff.mp hj).1
      omega
  | fin n =>
    have q : ∀ H', Keep S H H' → LedAt (c3 T) S H' a (playM [] L (.fin n)) (B + 1) → Q (retV L (.fin n)) H' := by
      rcases q with ⟨_, q⟩ | ⟨z, _⟩
      · exact q
      · cases z
    refine ⟨_, rfl, p, _, 0, .str "end", rfl, rfl, hp, rfl, ?_⟩
    refine ⟨_, rfl, rfl, _, rfl, iteF' rfl ?_⟩
    refine ⟨_, rfl, rfl, _, rfl, iteF' rfl ?_⟩
    refine ⟨_, rfl, rfl, _, rfl, iteF' rfl ?_⟩
    refine ⟨_, rfl, rfl, _, _, rfl, rfl, _, rfl, iteF' (by decide) ?_⟩
    obtain ⟨j, x, dx, en, hj, hL, hx⟩ := inOld n ok
    refine ⟨_, rfl, a, da, _, rfl, lp.ob, rfl, _, rfl, a, da, _, rfl, lp.ob, rfl, _, rfl, p, _, 1, .int n, rfl, rfl, hp, rfl, a, da, l1, l2, l3, d, L.ever, n, _, rfl, lp.ob, lp.e, fun i v ei hv => ?_, fun hn => ?_⟩
    · obtain rfl : i = j := by omega
      rw [List.getElem?_map, hj] at hv
      cases hv
      refine ⟨_, rfl, _, x.1, dx, p, _, x.2, (.fin n), rfl, hx, hp, rfl, ?_⟩
      refine q _ (Keep.mut (lp.so x (List.mem_of_getElem? hj)) (by rw [hx]; trivial)) ?_
      have e := setOld_eq (f := fun o => { o with standing := false }) en hL
      show LedAt (c3 T) S _ a (setOld L n _) (B + 1)
      rw [e]
      exact LedP.toA ((lp.upOld (o' := { x.2 with standing := false }) hj hx).mono (Nat.le_succ B))
    · exfalso
      rw [List.length_map] at hn
      have := (List.getElem?_eq_some_iff.mp hj).1
      omega
  | wlabel n l =>
    have q : ∀ H', Keep S H H' → LedAt (c3 T) S H' a (playM [] L (.wlabel n l)) (B + 1) → Q (retV L (.wlabel n l)) H' := by
      rcases q with ⟨_, q⟩ | ⟨z, _⟩
      · exact q
      · cases z
    refine ⟨_, rfl, p, _, 0, .str "write label", rfl, rfl, hp, rfl, ?_⟩
    refine ⟨_, rfl, rfl, _, rfl, iteF' rfl ?_⟩
    refine ⟨_, rfl, rfl, _, rfl, iteF' rfl ?_⟩
    refine ⟨_, rfl, rfl, _, rfl, iteF' rfl ?_⟩
    refine ⟨_, rfl, rfl, _, _, rfl, rfl, _, rfl, iteT' (by decide) ?_⟩
    obtain ⟨x, dx, hx, en, h1, h2⟩ := inNew n ok
    refine ⟨_, rfl, a, da, _, rfl, lp.ob, rfl, _, rfl, a, da, _, rfl, lp.ob, rfl, _, rfl, p, _, 1, .int n, rfl, rfl, hp, rfl, a, n, S, L, B, da, l1, l2, l3, d, os, ns, rfl, lp, by omega, fun H2 s2 => ⟨fun y hy ey => ?_, fun hn => absurd en (hn x hx)⟩⟩
    obtain rfl := num_inj lp.wf lp.la hy hx (ey.trans en.symm)
    refine ⟨_, rfl, _, rfl, p, _, 2, .int l, rfl, rfl, s2.sqT hp, rfl, ?_⟩
    have lt := lp.wf.ty y.2.2 (by rw [lp.la]; exact List.mem_map.mpr ⟨y, hx, rfl⟩)
    refine ⟨_, y.1, dx, y.2.1, y.2.2, (.wlabel n l), rfl, s2 _ _ h1, s2 _ _ h2, rfl, by omega, fun H3 g1 g2 g3 g4 => ?_⟩
    have lp2 := lp.same s2
    refine q H3 (s2.kp.trans ⟨fun b u e z => g3 b u e (fun q => z (by rw [q]; exact (lp.sn y hx).1)) (fun q => z (by rw [q]; exact (lp.sn y hx).2)), tups_of (p := y.1) (q := y.2.1) (by rw [s2 _ _ h1]; trivial) (by rw [s2 _ _ h2]; trivial) g3⟩) ?_
    show LedAt (c3 T) S _ a (setNew L n _) (B + 1)
    rw [← en, setNew_eq (f := fun o => { o with label := l, typed := o.typed ++ [("label" : Str)] }) lp.wf lp.la hx rfl]
    exact LedP.toA <| lp2.upNewT (x := y) hx rfl rfl (s2 _ _ h1) g1 g2 g3 g4 (Nat.le_succ B) (by simpa using lp.wf.ty _ (by rw [lp.la]; exact List.mem_map.mpr ⟨y, hx, rfl⟩))
  | wmoves n l =>
    have q : ∀ H', Keep S H H' → LedAt (c3 T) S H' a (playM [] L (.wmoves n l)) (B + 1) → Q (retV L (.wmoves n l)) H' := by
      rcases q with ⟨_, q⟩ | ⟨z, _⟩
      · exact q
      · cases z
    refine ⟨_, rfl, p, _, 0, .str "write moves", rfl, rfl, hp, rfl, ?_⟩
    refine ⟨_, rfl, rfl, _, rfl, iteF' rfl ?_⟩
    refine ⟨_, rfl, rfl, _, rfl, iteF' rfl ?_⟩
    refine ⟨_, rfl, rfl, _, rfl, iteF' rfl ?_⟩
    refine ⟨_, rfl, rfl, _, _, rfl, rfl, _, rfl, iteT' (by decide) ?_⟩
    obtain ⟨x, dx, hx, en, h1, h2⟩ := inNew n ok
    refine ⟨_, rfl, a, da, _, rfl, lp.ob, rfl, _, rfl, a, da, _, rfl, lp.ob, rfl, _, rfl, p, _, 1, .int n, rfl, rfl, hp, rfl, a, n, S, L, B, da, l1, l2, l3, d, os, ns, rfl, lp, by omega, fun H2 s2 => ⟨fun y hy ey => ?_, fun hn => absurd en (hn x hx)⟩⟩
    obtain rfl := num_inj lp.wf lp.la hy hx (ey.trans en.symm)
    refine ⟨_, rfl, _, rfl, p, _, 2, .int l, rfl, rfl, s2.sqT hp, rfl, ?_⟩
    have lt := lp.wf.ty y.2.2 (by rw [lp.la]; exact List.mem_map.mpr ⟨y, hx, rfl⟩)
    refine ⟨_, y.1, dx, y.2.1, y.2.2, (.wmoves n l), rfl, s2 _ _ h1, s2 _ _ h2, rfl, by omega, fun H3 g1 g2 g3 g4 => ?_⟩
    have lp2 := lp.same s2
    refine q H3 (s2.kp.trans ⟨fun b u e z => g3 b u e (fun q => z (by rw [q]; exact (lp.sn y hx).1)) (fun q => z (by rw [q]; exact (lp.sn y hx).2)), tups_of (p := y.1) (q := y.2.1) (by rw [s2 _ _ h1]; trivial) (by rw [s2 _ _ h2]; trivial) g3⟩) ?_
    show LedAt (c3 T) S _ a (setNew L n _) (B + 1)
    rw [← en, setNew_eq (f := fun o => { o with moves := l }) lp.wf lp.la hx rfl]
    exact LedP.toA <| lp2.upNewT (x := y) hx rfl rfl (s2 _ _ h1) g1 g2 g3 g4 (Nat.le_succ B) (show y.2.2.typed.length ≤ B + 1 by omega)
  | wtie n l =>
    have q : ∀ H', Keep S H H' → LedAt (c3 T) S H' a (playM [] L (.wtie n l)) (B + 1) → Q (retV L (.wtie n l)) H' := by
      rcases q with ⟨_, q⟩ | ⟨z, _⟩
      · exact q
      · cases z
    refine ⟨_, rfl, p, _, 0, .str "write tie", rfl, rfl, hp, rfl, ?_⟩
    refine ⟨_, rfl, rfl, _, rfl, iteF' rfl ?_⟩
    refine ⟨_, rfl, rfl, _, rfl, iteF' rfl ?_⟩
    refine ⟨_, rfl, rfl, _, rfl, iteF' rfl ?_⟩
    refine ⟨_, rfl, rfl, _, _, rfl, rfl, _, rfl, iteT' (by decide) ?_⟩
    obtain ⟨x, dx, hx, en, h1, h2⟩ := inNew n ok.1
    refine ⟨_, rfl, a, da, _, rfl, lp.ob, rfl, _, rfl, a, da, _, rfl, lp.ob, rfl, _, rfl, p, _, 1, .int n, rfl, rfl, hp, rfl, a, n, S, L, B, da, l1, l2, l3, d, os, ns, rfl, lp, by omega, fun H2 s2 => ⟨fun y hy ey => ?_, fun hn => absurd en (hn x hx)⟩⟩
    obtain rfl := num_inj lp.wf lp.la hy hx (ey.trans en.symm)
    refine ⟨_, rfl, _, rfl, p, _, 2, tv l, rfl, rfl, s2.sqT hp, rfl, ?_⟩
    have lt := lp.wf.ty y.2.2 (by rw [lp.la]; exact List.mem_map.mpr ⟨y, hx, rfl⟩)
    refine ⟨_, y.1, dx, y.2.1, y.2.2, (.wtie n l), rfl, s2 _ _ h1, s2 _ _ h2, rfl, by omega, fun H3 g1 g2 g3 g4 => ?_⟩
    have lp2 := lp.same s2
    refine q H3 (s2.kp.trans ⟨fun b u e z => g3 b u e (fun q => z (by rw [q]; exact (lp.sn y hx).1)) (fun q => z (by rw [q]; exact (lp.sn y hx).2)), tups_of (p := y.1) (q := y.2.1) (by rw [s2 _ _ h1]; trivial) (by rw [s2 _ _ h2]; trivial) g3⟩) ?_
    show LedAt (c3 T) S _ a (setNew L n _) (B + 1)
    rw [← en, setNew_eq (f := fun o => { o with tie := l, typed := o.typed ++ [("tie" : Str)] }) lp.wf lp.la hx rfl]
    exact LedP.toA <| lp2.upNewT (x := y) hx rfl rfl (s2 _ _ h1) g1 g2 g3 g4 (Nat.le_succ B) (by simpa using lp.wf.ty _ (by rw [lp.la]; exact List.mem_map.mpr ⟨y, hx, rfl⟩))
end
end Y

/-! # play and faults -/
namespace Y
open PySem L2 M
def wordOf : PyData → Str
  | .str s => s
  | _ => ""
def wordsOf : PyData → List Str
  | .tuple ds => ds.map wordOf
  | _ => []
/-- what is wrong, as data -/
def fD (x : Str × Int × Int) : PyData := .tuple [.str x.1, .int x.2.1, .int x.2.2]
def wD (i : Int) (x : Str × Int) : PyData := .tuple [.str x.1, .int i, .int x.2]
/-- a list of deeds -/
def DeedsAt (K : PySem.W.Frag) (H : Hp) (p : Addr) (es : List Deed) : Prop := ∃ xs, SqL K H p xs ∧ DpAll K H xs (es.map dD)
def okDeed (e : Deed) : Bool := isDeedD (dD e)
def spCheckDeeds (K : PySem.W.Frag) : Sp := fun vs H Q _ => ∃ (p : Addr) (es : List Deed), vs = [.ref p] ∧ DeedsAt K H p es ∧ (∀ e ∈ es, okDeed e = true) ∧ ∀ H', Same H H' → Q .non H'
/-- a run's numbers -/
def spRun (K : PySem.W.Frag) (C : C3) : Sp := fun vs H Q _ => ∃ (a : Addr) (sv : V) (ds : List PyData) (S : Addr → Prop) (L : Led) (B : Nat), vs = [.ref a, sv] ∧ LedAt C S H a L B ∧ B ≤ 4990 ∧ Dp K H sv (.tuple ds) ∧ Row ds ∧
  ∀ v H', Keep S H H' → LedAt C S H' a (runM (ds.map wordsOf) L) B → Q v H'
def spWrongs (K : PySem.W.Frag) (C : C3) : Sp := fun vs H Q _ => ∃ (a : Addr) (i : Int) (S : Addr → Prop) (L : Led) (B : Nat), vs = [.ref a, .int i] ∧ LedAt C S H a L B ∧ B ≤ 4990 ∧
  ∀ p xs H', H p = none → Same H H' → H' p = some (.lst xs) → DpAll K H' xs ((wrongsM L).map (wD i)) → Q (.ref p) H'
def spPlayed (K : PySem.W.Frag) (C : C3) (cs : Addr) (spR spW : Sp) : Sp := fun vs H Q _ => ∃ (sc p : Addr) (ds : List PyData) (es : List Deed), vs = [.ref sc, .ref p] ∧ ScrAt K cs H sc ds ∧ Row ds ∧ DeedsAt K H p es ∧ es.length ≤ 4000 ∧ (∀ e ∈ es, okDeed e = true) ∧ OkAll (ds.map wordsOf) Led.init es ∧ (faultsM (ds.map wordsOf) es).length ≤ sizeLine ∧
  (∀ e ∈ es, isRun e = true → (∀ vs H Q E, spRun K C vs H Q E → spR vs H Q E) ∧ (∀ vs H Q E, spWrongs K C vs H Q E → spW vs H Q E)) ∧
  ∀ (t a f : Addr) (xs : List V) (S : Addr → Prop) (H' : Hp), Same H H' → H f = none → (∀ x, S x → H x = none) → H' t = some (.tup [.ref a, .ref f]) → LedAt C S H' a (playAll (ds.map wordsOf) Led.init es) es.length → H' f = some (.lst xs) → DpAll K H' xs ((faultsM (ds.map wordsOf) es).map fD) → Q (.ref t) H'
def spPlay (K : PySem.W.Frag) (C : C3) (cs : Addr) (spR spW : Sp) : Sp := fun vs H Q _ => ∃ (sc p : Addr) (ds : List PyData) (es : List Deed), vs = [.ref sc, .ref p] ∧ ScrAt K cs H sc ds ∧ Row ds ∧ DeedsAt K H p es ∧ es.length ≤ 4000 ∧ (∀ e ∈ es, okDeed e = true) ∧ OkAll (ds.map wordsOf) Led.init es ∧ (faultsM (ds.map wordsOf) es).length ≤ sizeLine ∧
  (∀ e ∈ es, isRun e = true → (∀ vs H Q E, spRun K C vs H Q E → spR vs H Q E) ∧ (∀ vs H Q E, spWrongs K C vs H Q E → spW vs H Q E)) ∧
  ∀ (t e f : Addr) (xs ys : List V) (H' : Hp), Same H H' → H t = none → H e = none → H f = none → e ≠ f → H' t = some (.tup [.ref e, .ref f]) → H' e = some (.lst xs) → H' f = some (.lst ys) →
    DpAll K H' xs (oRows (playAll (ds.map wordsOf) Led.init es)) → DpAll K H' ys (nRows (playAll (ds.map wordsOf) Led.init es)) → Q (.ref t) H'
def spFaults (K : PySem.W.Frag) (C : C3) (cs : Addr) (spR spW : Sp) : Sp := fun vs H Q _ => ∃ (sc p : Addr) (ds : List PyData) (es : List Deed), vs = [.ref sc, .ref p] ∧ ScrAt K cs H sc ds ∧ Row ds ∧ DeedsAt K H p es ∧ es.length ≤ 4000 ∧ (∀ e ∈ es, okDeed e = true) ∧ OkAll (ds.map wordsOf) Led.init es ∧ (faultsM (ds.map wordsOf) es).length ≤ sizeLine ∧
  (∀ e ∈ es, isRun e = true → (∀ vs H Q E, spRun K C vs H Q E → spR vs H Q E) ∧ (∀ vs H Q E, spWrongs K C vs H Q E → spW vs H Q E)) ∧
  ∀ (f : Addr) (xs : List V) (H' : Hp), Same H H' → H f = none → H' f = some (.lst xs) → DpAll K H' xs ((faultsM (ds.map wordsOf) es).map fD) → Q (.ref f) H'
theorem SqL.but {K : PySem.W.Frag} {S : Addr → Prop} {H H' : Hp} {p : Addr} {xs : List V} (h : SqL K H p xs) (k : ∀ b o, H b = some o → H' b = some o) : SqL K H' p xs := h.same k
theorem DeedsAt.same {K : PySem.W.Frag} {H H' : Hp} {p : Addr} {es : List Deed} (h : DeedsAt K H p es) (s : Same H H') : DeedsAt K H' p es := by
  obtain ⟨xs, h1, h2⟩ := h
  exact ⟨xs, h1.same s, s.dpAll h2⟩
theorem deed_shaped (e : Deed) : SeqAt.shaped (dD e) = true := by
  have ht : ∀ m, PyData.canLay0 (tD m) = true ∧ PyData.depth (tD m) = 0 := fun m => by cases m <;> exact ⟨rfl, rfl⟩
  have aux : ∀ d : PyData, PyData.canLay0 d = true → PyData.depth d ≤ 64 → SeqAt.shaped d = true := fun d h1 h2 => by
    show (PyData.canLay0 d && decide (PyData.depth d ≤ 64)) = true
    rw [h1, decide_eq_true h2]; rfl
  cases e <;> (refine aux _ ?_ ?_ <;> simp only [dD, PyData.canLay0, PyData.canLayAll0, PyData.depth, PyData.depthAll, (ht _).1, (ht _).2, Bool.and_true, Bool.true_and] <;> decide +kernel)
theorem deed_len (e : Deed) : ∀ ds, dD e = .tuple ds → ds.length ≤ 1000 := by
  cases e <;> (intro ds h; cases h; simp)
theorem eqv_run (e : Deed) : PyData.eqv (dD e) (.tuple [.str "run"]) = isRun e := by
  cases e <;> simp [dD, PyData.eqv, PyData.eqvAll, isRun] <;> decide
theorem playM_nr {e : Deed} {L : Led} (h : e ≠ .run) (s1 s2 : List (List Str)) : playM s1 L e = playM s2 L e := by
  cases e <;> first | rfl | exact absurd rfl h
section
variable {P : Program} {w : World} {K : PySem.W.Frag} {mg : Str → Option Value} {base : Heap}
theorem ok_check_deeds (T : Tx K mg) : FnOk P w K mg base CX0 4 T.check_deeds.a T.check_deeds.fd ["deeds"] (spCheckDeeds K) := by
  have G_is_deed := ok_is_deed (P := P) (w := w) (base := base) T
  refine T.check_deeds.F.ok sc_check_deeds (fun vs H Q E h => by obtain ⟨p, es, rfl, _⟩ := h; rfl) (fun cdv A outer s H vs Q E hr h => ?_)
  obtain ⟨p, es, rfl, ⟨xs, hp, hxs⟩, hok, q⟩ := h
  refine ⟨_, (pss_cons (ps_if (pt_not (pt_val (pe_callB (call_isDK K) (by rfl) T.b_isinstance (by decide +kernel) (pa_cons (pv 0) (pa_cons (pe_bltn (v := .ty "list") (by rfl) T.b_list (by decide +kernel) rfl) pa_nil)))))
  (pss_one ps_never)
  pss_nil)
  (pss_one (ps_for PassesOwn.never rfl (pi_enum (by rfl) T.b_enumerate (pa_cons (pv 0) pa_nil)) (pg_tupK K rfl (pgs_cons (pg_name (i := 1) sc_check_deeds.nd rfl (Or.inl rfl)) (pgs_cons (pg_name (i := 2) sc_check_deeds.nd rfl (Or.inl rfl)) pgs_nil)))
  (pss_one (ps_if (pt_not (pt_val (pe_call G_is_deed (hr.mono (by first | decide | omega)) rfl T.is_deed.g T.is_deed.F.kp T.is_deed.b .nil pass0 (pa_cons (pv 2) pa_nil))))
  (pss_one ps_never)
  pss_nil))))), ?_⟩
  have tyL : TyX K H (.ref p) (.type "list") := (Dp.lst hp hxs).ty
  refine ⟨_, rfl, .ref p, "list", "list", rfl, tyL, by decide, by decide, _, rfl, iteF' rfl ?_⟩
  refine ⟨_, rfl, p, xs, rfl, hp, for_enumL (K := K) (a := p) (xs := xs) (fun i σ H' => Same H H' ∧ ∃ v2 v3, σ = [some (.ref p), v2, v3]) ⟨Same.refl H, none, none, rfl⟩ (fun i σ H' _ ⟨s, _⟩ => hp.same s) ?_ ?_⟩
  · rintro i y T0 σ H' hi ⟨s, v2, v3, rfl⟩ nT
    obtain ⟨dd, h1, h2⟩ := hxs.get' hi
    rw [List.getElem?_map] at h1
    obtain ⟨e, he, rfl⟩ := Option.map_eq_some_iff.mp h1
    have s2 : Same H (upd H' T0 (.tup [.int (i : Nat), y])) := s.add nT
    refine ⟨T0, _, rfl, SqT.of upd_same, rfl, _, _, rfl, _, _, rfl, rfl, ?_⟩
    refine ⟨_, rfl, y, dD e, rfl, s2.dp h2, deed_shaped e, deed_len e, fun H2 s3 => ⟨_, rfl, iteF' ?_ ⟨s2.trans s3, _, _, rfl⟩⟩⟩
    have := hok e (List.mem_of_getElem? he)
    unfold okDeed at this
    rw [this]; rfl
  · rintro σ H' ⟨s, v2, v3, rfl⟩
    exact q H' s
theorem ok_played (T : Tx K mg) {spR spW : Sp} (G_Ledgers_run : FnOk P w K mg base CX0 6 T.Ledgers_run.a T.Ledgers_run.fd ["self", "steps"] spR) (G_Ledgers_wrongs : FnOk P w K mg base CX0 5 T.Ledgers_wrongs.a T.Ledgers_wrongs.fd ["self", "index"] spW) :
    FnOk P w K mg base CX0 8 T.played.a T.played.fd ["script", "deeds"] (spPlayed K (c3 T) T.c_Script spR spW) := by
  have G_check_deeds := ok_check_deeds (P := P) (w := w) (base := base) T
  have G_Ledgers_init := ok_Ledgers_init (P := P) (w := w) (base := base) T
  have G_Ledgers_check := ok_check (P := P) (w := w) (base := base) T
  have G_Ledgers_play_deed := ok_play_deed (P := P) (w := w) (base := base) T G_Ledgers_run
  have G_Script_steps := ok_Script_steps (P := P) (w := w) (base := base) T
  refine T.played.F.ok sc_played (fun vs H Q E h => by obtain ⟨sc, p, ds, es, rfl, _⟩ := h; rfl) (fun cdv A outer s H vs Q E hr h => ?_)
  obtain ⟨sc, p, ds, es, rfl, hsc, hrow, hde, hlen, hok, hall, hfl, himp, q⟩ := h
  refine ⟨_, (pss_cons (ps_expr (pe_call G_check_deeds (hr.mono (by first | decide | omega)) rfl T.check_deeds.g T.check_deeds.F.kp T.check_deeds.b .nil pass0 (pa_cons (pv 1) pa_nil)))
  (pss_cons (ps_par (i := 2) (j := 3) rfl sc_played.nd rfl rfl (by decide) rfl rfl (pa_cons (pe_make0 T.mk_Ledgers G_Ledgers_init (hr.mono (by first | decide | omega)) rfl T.g_Ledgers T.Ledgers_init.b .nil pass0) (pa_cons (pe_lst pa_nil) pa_nil)) rfl)
  (pss_cons (ps_for PassesOwn.never rfl (pi_enum (by rfl) T.b_enumerate (pa_cons (pv 1) pa_nil)) (pg_tupK K rfl (pgs_cons (pg_name (i := 4) sc_played.nd rfl (Or.inl rfl)) (pgs_cons (pg_name (i := 5) sc_played.nd rfl (Or.inl rfl)) pgs_nil)))
  (pss_cons (ps_expr (pe_meth (pv 2) T.cl_Ledgers T.Ledgers_check.m G_Ledgers_check (hr.mono (by first | decide | omega)) T.Ledgers_check.b .nil pass0 (pa_cons (pv 5) (pa_cons (pv 4) pa_nil))))
  (pss_cons (ps_expr (pe_meth (pv 2) T.cl_Ledgers T.Ledgers_play_deed.m G_Ledgers_play_deed (hr.mono (by first | decide | omega)) T.Ledgers_play_deed.b .nil pass0 (pa_cons (pe_meth0 (pv 0) T.cl_Script T.Script_steps.m G_Script_steps (hr.mono (by first | decide | omega)) T.Script_steps.b .nil pass0) (pa_cons (pv 5) pa_nil))))
  (pss_one (ps_if (pt_cmpR (op_eqDK K (hu65 hr)) (pv 5) (pe_tup (pa_cons pe_str pa_nil)) (nomark _))
  (pss_one (ps_expr (pe_bm PySem.F.plainAttrs_list PySem.F.slot_list_extend PySem.F.type_list_extend mt_extend (pv 3) (pa_cons (pe_meth (pv 2) T.cl_Ledgers T.Ledgers_wrongs.m G_Ledgers_wrongs (hr.mono (by first | decide | omega)) T.Ledgers_wrongs.b .nil pass0 (pa_cons (pv 4) pa_nil)) pa_nil))))
  pss_nil)))))
  (pss_one (ps_ret (pe_tup (pa_cons (pv 2) (pa_cons (pv 3) pa_nil)))))))), ?_⟩
  refine ⟨_, rfl, p, es, rfl, hde, hok, fun H1 s1 => ?_⟩
  refine fun x dx nx ndx nd => ?_
  have nxH : H x = none := s1.free nx
  have sx : Same H (upd (upd H1 dx (.own x)) x (.ins T.c_Ledgers dx [])) := by
    intro b o e
    rw [upd_ne (ne_of_none (s1 _ _ e) nx), upd_ne (ne_of_none (s1 _ _ e) ndx)]; exact s1 _ _ e
  refine ⟨x, dx, fun y => H y = none, rfl, upd_same, fun y hy => sx.free hy, nxH, fun H2 led kp => ⟨rfl, line_of (Nat.zero_le _), fun f nf => ⟨_, _, rfl, ?_⟩⟩⟩
  have s2 : Same H H2 := kp.same sx
  have nfH : H f = none := s2.free nf
  have s3 : Same H (upd H2 f (.lst [])) := s2.trans (Same.new nf)
  have led2 : LedAt (c3 T) (fun y => H y = none ∧ y ≠ f) (upd H2 f (.lst [])) x Led.init 0 := led.sub (Same.new nf) (fun y o hy h => ⟨h, fun e => by rw [e, nf] at hy; cases hy⟩) fun y hy => ⟨s3.free hy, (updN hy).1⟩
  obtain ⟨xs, hp, hxs⟩ := id hde
  have hlx := hxs.length
  rw [List.length_map] at hlx
  refine ⟨_, rfl, p, xs, rfl, hp.same s3, for_enumL (K := K) (a := p) (xs := xs) (fun i σ H' => Same H H' ∧ LedAt (c3 T) (fun y => H y = none ∧ y ≠ f) H' x (playAll (ds.map wordsOf) Led.init (es.take i)) i ∧
    (∃ v4 v5, σ = [some (.ref sc), some (.ref p), some (.ref x), some (.ref f), v4, v5]) ∧ ∃ fs, H' f = some (.lst fs) ∧ DpAll K H' fs ((faultsGo (ds.map wordsOf) 0 Led.init (es.take i)).map fD)) ⟨s3, led2, ⟨none, none, rfl⟩, [], upd_same, .nil⟩ (fun i σ H' _ h => hp.same h.1) ?_ ?_⟩
  · rintro i y T0 σ H' hi ⟨s, led, ⟨v4, v5, rfl⟩, fs, hf, hfs⟩ nT
    obtain ⟨dd, h1, h2⟩ := hxs.get' hi
    rw [List.getElem?_map] at h1
    obtain ⟨e, he, rfl⟩ := Option.map_eq_some_iff.mp h1
    have h2H := h2
    have hil : i < es.length := (List.getElem?_eq_some_iff.mp he).1
    have hem := List.mem_of_getElem? he
    have sT : Same H' (upd H' T0 (.tup [.int (i : Nat), y])) := Same.new nT
    have s4 := s.trans sT
    have okm := hall.there he
    obtain ⟨pd, rfl, hpd⟩ := dD_inv h2
    obtain ⟨da, l1, l2, l3, d, os, ns, lp⟩ := id (led.same sT)
    refine ⟨T0, _, rfl, SqT.of upd_same, rfl, _, _, rfl, _, _, rfl, rfl, ?_⟩
    refine ⟨_, rfl, x, da, _, rfl, lp.ob, rfl, _, rfl, _, rfl, ?_⟩
    refine ⟨x, pd, _, _, _, i, e, rfl, LedP.toA lp, by omega, s4.sqT hpd, okm, fun H5 s5 => ?_⟩
    have lp5 := lp.same s5
    have s05 := s4.trans s5
    obtain ⟨sdx, sv, hsc1, hsc2⟩ := id hsc
    refine ⟨_, rfl, x, da, _, rfl, lp5.ob, rfl, _, rfl, sc, sdx, _, rfl, s05 _ _ hsc1, kf_no _ (by decide +kernel), sc, sdx, sv, rfl, s05 _ _ hsc1, _, rfl, ?_⟩
    have hSub : ∀ z, (H z = none ∧ z ≠ f) → H z = none := fun z h => h.1
    have f5 : H' f = some (.lst fs) → upd H' T0 (.tup [.int (i : Nat), .ref pd]) f = some (.lst fs) := fun h => sT _ _ h
    have hf5 := s5 _ _ (f5 hf)
    have df5 := s5.dpAll (sT.dpAll hfs)
    have imF : ∀ l : List (Str × Int × Int), immAll (l.map fD) = true := fun l => imm_all fun d hd => by
      obtain ⟨z, _, rfl⟩ := List.mem_map.mp hd
      rfl
    have nS : ¬ (H f = none ∧ f ≠ f) := fun h => h.2 rfl
    have tst : ∀ {H6 : Hp} {R : Bool → Hp → Prop} (σ : St), σ[5]? = some (some (.ref pd)) → Dp K H6 (.ref pd) (dD e) → (∀ H7, Same H6 H7 → R (isRun e) H7) → tTest (tOp (rEqD K) (tVar 5) (tTup (tCons (tC (.str "run")) tNil))) σ H6 R := by
      intro H6 R σ h5 hdp k
      refine ⟨_, h5, line_of (by show 1 ≤ 100000; decide), fun t nt => ⟨dD e, .tuple [.str "run"], (Same.new nt).dp hdp, .tupOf upd_same (.one (.str _)), deed_shaped e, by decide +kernel, _, rfl, ?_⟩⟩
      rw [eqv_run]; exact k _ (Same.new nt)
    by_cases hr : isRun e = true
    · have er : e = .run := by cases e <;> simp [isRun] at hr; rfl
      obtain ⟨w1, w2⟩ := himp e hem hr
      subst er
      refine ⟨x, pd, _, _, _, i, .run, rfl, LedP.toA lp5, by omega, s05.sqT hpd, okm, .inr ⟨rfl, w1 _ _ _ _ ⟨x, sv, ds, _, _, i, rfl, LedP.toA lp5, by omega, s05.dp hsc2, hrow, fun v H6 kp led6 => ?_⟩⟩⟩
      have k06 : Same H H6 := (kp.weak hSub).same s05
      refine tst _ rfl (k06.dp h2H) fun H7 s7 => iteT' rfl ?_
      have led7 := led6.same s7
      obtain ⟨da7, _, _, _, _, _, _, lp7⟩ := id led7
      have hf7 := s7 _ _ (kp.keep _ _ hf5 nS)
      refine ⟨_, rfl, .inl ⟨rfl, fs, SqL.of hf7⟩, _, rfl, x, da7, _, rfl, lp7.ob, rfl, _, rfl, w2 _ _ _ _ ⟨x, i, _, _, i, rfl, led7, by omega, fun p8 xs8 H8 np8 s8 hp8 hxs8 => ?_⟩⟩
      have hf8 := s8 _ _ hf7
      have df7 := s7.dpAll (kp.tups.dpAll (imF _) df5)
      have eL : playAll (ds.map wordsOf) Led.init (es.take (i + 1)) = runM (ds.map wordsOf) (playAll (ds.map wordsOf) Led.init (es.take i)) := playAll_snoc he
      have eF := faultsGo_snoc (steps := ds.map wordsOf) (L := Led.init) (k := 0) he
      rw [if_pos (show isRun .run = true from rfl)] at eF
      have lF := faultsGo_take (steps := ds.map wordsOf) (es := es) (L := Led.init) (k := 0) (n := i + 1)
      rw [eF, List.length_append, List.length_map] at lF
      have l1 := df7.length
      have l2 := hxs8.length
      rw [List.length_map] at l1 l2
      refine ⟨f, p8, fs, xs8, rfl, rfl, hf8, hp8, ?_, ?_⟩
      · rw [l1, l2]
        exact Nat.le_trans lF hfl
      have tf : Tups H8 (upd H8 f (.lst (fs ++ xs8))) := Tups.mut (by rw [hf8]; trivial)
      have k08 : Same H H8 := (k06.trans s7).trans s8
      refine ⟨k08.mut nfH, ?_, ⟨_, _, rfl⟩, _, upd_same, ?_⟩
      · rw [eL]
        refine ((led7.same s8).stay (fun b o e h => by rw [upd_ne h.2]; exact e) tf fun b hb => ⟨k08.free (updN hb).2, (updN hb).1⟩).mono (Nat.le_succ i)
      · rw [eF, List.map_append]
        refine (tf.dpAll (imF _) (s8.dpAll df7)).append ?_
        have e2 : ((wrongsM (playM (ds.map wordsOf) (playAll (ds.map wordsOf) Led.init (es.take i)) .run)).map fun x => (x.1, ((0 + i : Nat) : Int), x.2)).map fD = (wrongsM (runM (ds.map wordsOf) (playAll (ds.map wordsOf) Led.init (es.take i)))).map (wD i) := by
          rw [List.map_map]
          refine List.map_congr_left fun z _ => ?_
          simp [fD, wD]
        rw [e2]
        exact tf.dpAll (imm_all fun d hd => by obtain ⟨z, _, rfl⟩ := List.mem_map.mp hd; rfl) hxs8
    · have hr : isRun e = false := by simpa using hr
      have ene : e ≠ .run := fun z => by rw [z] at hr; cases hr
      refine ⟨x, pd, _, _, _, i, e, rfl, LedP.toA lp5, by omega, s05.sqT hpd, okm, .inl ⟨ene, fun H6 kp led6 => ?_⟩⟩
      have k06 : Same H H6 := (kp.weak hSub).same s05
      refine tst _ rfl (k06.dp h2H) fun H7 s7 => iteF' hr ?_
      refine ⟨k06.trans s7, ?_, ⟨_, _, rfl⟩, fs, s7 _ _ (kp.keep _ _ hf5 nS), ?_⟩
      · rw [playAll_snoc he, playM_nr ene (ds.map wordsOf) []]
        exact led6.same s7
      · rw [faultsGo_snoc he, hr, if_neg (by decide), List.append_nil]
        exact s7.dpAll (kp.tups.dpAll (imF _) df5)
  · rintro σ H' ⟨s, led, ⟨v4, v5, rfl⟩, fs, hf, hfs⟩
    rw [hlx, List.take_length] at led hfs
    refine ⟨_, rfl, _, rfl, line_of (by show 2 ≤ 100000; decide), fun t nt => ?_⟩
    have st := Same.new (o := .tup [.ref x, .ref f]) nt
    exact q t x f fs _ _ (s.trans st) nfH (fun y h => h.1) upd_same (led.same st) (st _ _ hf) (st.dpAll hfs)
theorem ok_play (T : Tx K mg) {spR spW : Sp} (G_Ledgers_run : FnOk P w K mg base CX0 6 T.Ledgers_run.a T.Ledgers_run.fd ["self", "steps"] spR) (G_Ledgers_wrongs : FnOk P w K mg base CX0 5 T.Ledgers_wrongs.a T.Ledgers_wrongs.fd ["self", "index"] spW) :
    FnOk P w K mg base CX0 9 T.play.a T.play.fd ["script", "deeds"] (spPlay K (c3 T) T.c_Script spR spW) := by
  have G_played := ok_played (P := P) (w := w) (base := base) T G_Ledgers_run G_Ledgers_wrongs
  have G_Ledgers_rows := ok_rows (P := P) (w := w) (base := base) T
  refine T.play.F.ok sc_play (fun vs H Q E h => by obtain ⟨sc, p, ds, es, rfl, _⟩ := h; rfl) (fun cdv A outer s H vs Q E hr h => ?_)
  obtain ⟨sc, p, ds, es, rfl, hsc, hrow, hde, hlen, hok, hall, hfl, himp, q⟩ := h
  refine ⟨_, (pss_one (ps_ret (pe_meth0 (pe_ix (ix_tupK K) (pe_call G_played (hr.mono (by first | decide | omega)) rfl T.played.g T.played.F.kp T.played.b .nil pass0 (pa_cons (pv 0) (pa_cons (pv 1) pa_nil))) pe_int (fun _ _ => rfl)) T.cl_Ledgers T.Ledgers_rows.m G_Ledgers_rows (hr.mono (by first | decide | omega)) T.Ledgers_rows.b .nil pass0))), ?_⟩
  refine ⟨_, rfl, _, rfl, sc, p, ds, es, rfl, hsc, hrow, hde, hlen, hok, hall, hfl, himp, fun t a f xs S H' s nf hS ht led hf hxs => ?_⟩
  obtain ⟨da, l1, l2, l3, d, os, ns, lp⟩ := id led
  refine ⟨t, _, 0, .ref a, rfl, rfl, SqT.of ht, rfl, a, da, _, rfl, lp.ob, rfl, a, S, _, _, rfl, led, by omega, fun t2 e2 f2 ys zs H2 s2 n1 n2 n3 ne h1 h2 h3 h4 h5 => ?_⟩
  exact q t2 e2 f2 ys zs H2 (s.trans s2) (s.free n1) (s.free n2) (s.free n3) ne h1 h2 h3 h4 h5
theorem ok_faults (T : Tx K mg) {spR spW : Sp} (G_Ledgers_run : FnOk P w K mg base CX0 6 T.Ledgers_run.a T.Ledgers_run.fd ["self", "steps"] spR) (G_Ledgers_wrongs : FnOk P w K mg base CX0 5 T.Ledgers_wrongs.a T.Ledgers_wrongs.fd ["self", "index"] spW) :
    FnOk P w K mg base CX0 9 T.faults.a T.faults.fd ["script", "deeds"] (spFaults K (c3 T) T.c_Script spR spW) := by
  have G_played := ok_played (P := P) (w := w) (base := base) T G_Ledgers_run G_Ledgers_wrongs
  refine T.faults.F.ok sc_faults (fun vs H Q E h => by obtain ⟨sc, p, ds, es, rfl, _⟩ := h; rfl) (fun cdv A outer s H vs Q E hr h => ?_)
  obtain ⟨sc, p, ds, es, rfl, hsc, hrow, hde, hlen, hok, hall, hfl, himp, q⟩ := h
  refine ⟨_, (pss_one (ps_ret (pe_ix (ix_tupK K) (pe_call G_played (hr.mono (by first | decide | omega)) rfl T.played.g T.played.F.kp T.played.b .nil pass0 (pa_cons (pv 0) (pa_cons (pv 1) pa_nil))) pe_int (fun _ _ => rfl)))), ?_⟩
  refine ⟨_, rfl, _, rfl, sc, p, ds, es, rfl, hsc, hrow, hde, hlen, hok, hall, hfl, himp, fun t a f xs S H' s nf hS ht led hf hxs => ?_⟩
  exact ⟨t, _, 1, .ref f, rfl, rfl, SqT.of ht, rfl, q f xs H' s nf hf hxs⟩
end
end Y

namespace Y
open PySem L2
local macro_rules | `(tactic| walk_at "y") => `(tactic| repeat (first | refine ⟨_, rfl, ?_⟩ | refine ⟨_, _, rfl, rfl, ?_⟩ | refine Or.inl ⟨_, rfl, ?_⟩))
/-- a well with at most B turns -/
def WellAt (H : Hp) (p : Addr) (B : Int) : Prop := ∃ w0 w1 w2 : Int, H p = some (.lst [.int w0, .int w1, .int w2]) ∧ 0 ≤ w1 ∧ w1 < 2 ^ 200 ∧ 0 ≤ w2 ∧ w2 ≤ B
theorem WellAt.mono {H : Hp} {p : Addr} {B B' : Int} (h : WellAt H p B) (hb : B ≤ B') : WellAt H p B' := by
  obtain ⟨w0, w1, w2, h1, h2, h3, h4, h5⟩ := h
  exact ⟨w0, w1, w2, h1, h2, h3, h4, Int.le_trans h5 hb⟩
theorem WellAt.mut {H : Hp} {p : Addr} {B : Int} (h : WellAt H p B) : Mut (H p) := by
  obtain ⟨w0, w1, w2, h1, _⟩ := h
  rw [h1]; trivial
theorem WellAt.same {H H' : Hp} {p : Addr} {B : Int} (h : WellAt H p B) (s : Same H H') : WellAt H' p B := by
  obtain ⟨w0, w1, w2, h1, h2⟩ := h
  exact ⟨w0, w1, w2, s _ _ h1, h2⟩
def spWell (K : PySem.W.Frag) : Sp := fun vs H Q _ => ∃ (a : Addr) (ns : List Int) (k : Int), vs = [.ref a, .int k] ∧ SqL K H a (ns.map V.int) ∧ ns.length ≤ 63 ∧ 0 ≤ k ∧ k ≤ 1000 ∧
  ∀ (p : Addr) (H' : Hp), H p = none → Same H H' → WellAt H' p 0 → Q (.ref p) H'
def spDraw : Sp := fun vs H Q _ => ∃ (p : Addr) (many B : Int), vs = [.ref p, .int many] ∧ WellAt H p B ∧ B < 2 ^ 60 ∧ 0 < many ∧ many < 2 ^ 200 ∧
  ∀ (r : Int) (H' : Hp), 0 ≤ r → r < many → WellAt H' p (B + 1) → But p H H' → Q (.int r) H'
section
variable {P : Program} {w : World} {K : PySem.W.Frag} {mg : Str → Option Value} {base : Heap}
theorem ok_well (T : Tx K mg) : FnOk P w K mg base CX0 1 T.well.a T.well.fd ["script", "k"] (spWell K) := by
  refine T.well.F.ok sc_well (fun vs H Q E h => by obtain ⟨a, ns, k, rfl, _⟩ := h; rfl) (fun cdv A outer s H vs Q E hr h => ?_)
  obtain ⟨a, ns, k, rfl, hS, hlen, hk0, hk1, q⟩ := h
  refine ⟨_, (pss_cons (ps_set (i := 2) sc_well.nd rfl (Or.inl rfl) pe_int)
  (C8.pss_cut (ps_if (pt_cmpR op_lt (pv 1) (pe_callB (call_lenK K) (by rfl) T.b_len (by decide +kernel) (pa_cons (pv 0) pa_nil)) (nomark _))
  (pss_one (ps_set (i := 2) sc_well.nd rfl (Or.inl rfl) (pe_callTy call_int1 (by rfl) T.b_int (by decide +kernel) (pa_cons (pe_ix (ix_listK K) (pv 0) (pv 1) (fun _ _ => rfl)) pa_nil))))
  pss_nil)
  (pss_one (ps_ret (pe_lst (pa_cons (pe_callB (call_max2 rfl) (by rfl) T.b_max (by decide +kernel) (pa_cons pe_int (pa_cons (pe_op op_sub (pe_callB call_abs (by rfl) T.b_abs (by decide +kernel) (pa_cons (pv 2) pa_nil)) (pe_op op_powW pe_int pe_int)) pa_nil))) (pa_cons (pe_op op_add (pe_op op_mod (pe_callTy call_int1 (by rfl) T.b_int (by decide +kernel) (pa_cons (pv 2) pa_nil)) pe_int) (pe_op op_mul pe_int (pv 1))) (pa_cons pe_int pa_nil)))))))), ?_⟩
  refine ⟨fun σ' H' => H' = H ∧ ∃ cell : Int, σ' = [some (.ref a), some (.int k), some (.int cell)], ?_, ?_⟩
  · refine ⟨_, rfl, _, rfl, _, _, rfl, .inl ⟨_, hS, rfl⟩, _, _, rfl, rfl, _, rfl, ite2 (fun c => ?_) (fun c => ?_)⟩
    · have c := of_decide_eq_true c
      rw [List.length_map] at c
      obtain ⟨j, rfl⟩ : ∃ j : Nat, k = (j : Int) := ⟨k.toNat, by omega⟩
      have hj : j < ns.length := by omega
      refine ⟨_, rfl, _, rfl, a, _, _, .int ns[j], rfl, rfl, hS, atI_nat (by rw [List.getElem?_map, List.getElem?_eq_getElem hj]; rfl), .inl ⟨_, rfl, ?_⟩⟩
      exact ⟨rfl, _, rfl⟩
    · exact ⟨rfl, _, rfl⟩
  · rintro σ' H' ⟨rfl, cell, rfl⟩
    refine ⟨_, rfl, _, rfl, _, _, rfl, rfl, ⟨by decide, by decide⟩, _, _, rfl, rfl, _, _, rfl, ?_⟩
    refine ⟨_, rfl, .inl ⟨_, rfl, _, _, rfl, rfl, (by show (0 : Int) < 162259276829213363391578010288127; decide), _, rfl, _, _, rfl, rfl, .inl (by decide), _, _, rfl, rfl, by show 3 ≤ sizeLine; decide, fun p hp => ?_⟩⟩
    refine q p _ hp (Same.new hp) ⟨_, _, _, upd_same, ?_, ?_, by decide, by decide⟩
    · have := Int.emod_nonneg cell (show (162259276829213363391578010288127 : Int) ≠ 0 by decide); show 0 ≤ cell % 162259276829213363391578010288127 + 8191 * k; omega
    · have := Int.emod_lt_of_pos cell (show (0 : Int) < 162259276829213363391578010288127 by decide)
      show cell % 162259276829213363391578010288127 + 8191 * k < 2 ^ 200
      omega
theorem ok_draw (T : Tx K mg) : FnOk P w K mg base CX0 1 T.draw.a T.draw.fd ["well", "many"] spDraw := by
  refine T.draw.F.ok sc_draw (fun vs H Q E h => by obtain ⟨p, many, B, rfl, _⟩ := h; rfl) (fun cdv A outer s H vs Q E hr h => ?_)
  obtain ⟨p, many, B, rfl, hw, hB, hm0, hm1, k⟩ := h
  have hmu := hw.mut
  obtain ⟨w0, w1, w2, hp, h10, h11, h20, h21⟩ := hw
  have i0 : ∀ {l : List V} {x : V}, l[0]? = some x → atI l 0 = some x := fun h => atI_nat (j := 0) h
  have i1 : ∀ {l : List V} {x : V}, l[1]? = some x → atI l 1 = some x := fun h => atI_nat (j := 1) h
  have i2 : ∀ {l : List V} {x : V}, l[2]? = some x → atI l 2 = some x := fun h => atI_nat (j := 2) h
  refine ⟨_, (pss_cons (ps_if (pt_cmpR op_gt (pe_ix (ix_listK K) (pv 0) pe_int (fun _ _ => rfl)) pe_int (nomark _))
  (pss_cons (ps_set (i := 2) sc_draw.nd rfl (Or.inl rfl) (pe_op op_mod (pe_callTy call_int1 (by rfl) T.b_int (by decide +kernel) (pa_cons (pe_ix (ix_listK K) (pv 0) pe_int (fun _ _ => rfl)) pa_nil)) (pv 1)))
  (pss_cons (ps_asg (pe_op op_fdivW (pe_ix (ix_listK K) (pv 0) pe_int (fun _ _ => rfl)) (pv 1)) (pg_sub (pv 0) pe_int set_list))
  (pss_one (ps_ret (pv 2)))))
  pss_nil)
  (pss_cons (ps_asg (pe_op op_add (pe_ix (ix_listK K) (pv 0) pe_int (fun _ _ => rfl)) pe_int) (pg_sub (pv 0) pe_int set_list))
  (C8.pss_cut (ps_set (i := 3) sc_draw.nd rfl (Or.inl rfl) (pe_op op_mod (pe_callTy call_int1 (by rfl) T.b_int (by decide +kernel) (pa_cons (pe_op op_powW (pe_op op_add (pe_ix (ix_listK K) (pv 0) pe_int (fun _ _ => rfl)) (pe_op op_mul pe_int (pe_ix (ix_listK K) (pv 0) pe_int (fun _ _ => rfl)))) pe_int) pa_nil)) pe_int))
  (C8.pss_cut (ps_set (i := 3) sc_draw.nd rfl (Or.inl rfl) (pe_op op_mod (pe_callTy call_int1 (by rfl) T.b_int (by decide +kernel) (pa_cons (pe_op op_powW (pe_op op_add (pv 3) (pe_op op_mul pe_int (pe_ix (ix_listK K) (pv 0) pe_int (fun _ _ => rfl)))) pe_int) pa_nil)) pe_int))
  (pss_one (ps_ret (pe_op op_mod (pe_callTy call_int1 (by rfl) T.b_int (by decide +kernel) (pa_cons (pe_op op_fdivW (pv 3) (pe_op op_powW pe_int pe_int)) pa_nil)) (pv 1)))))))), ?_⟩
  refine ⟨_, rfl, _, _, _, _, rfl, rfl, SqL.of hp, i0 rfl, _, _, rfl, rfl, _, rfl, ite2 (fun c => ?_) (fun c => ?_)⟩
  · have c := of_decide_eq_true c
    refine ⟨_, rfl, _, _, _, _, rfl, rfl, SqL.of hp, i0 rfl, .inl ⟨_, rfl, _, rfl, _, _, rfl, rfl, hm0, ?_⟩⟩
    refine ⟨_, rfl, _, _, _, _, rfl, rfl, SqL.of hp, i0 rfl, _, rfl, _, _, rfl, rfl, wide_div hm0 (b := 200) (by omega) (by decide) (by decide), ?_⟩
    refine ⟨_, rfl, p, _, 0, 0, rfl, rfl, hp, rfl, _, rfl, ?_⟩
    exact k _ _ (Int.emod_nonneg _ (by omega)) (Int.emod_lt_of_pos _ hm0) ⟨_, _, _, upd_same, h10, h11, h20, by omega⟩ (But.mut hmu)
  · refine ⟨_, rfl, _, _, _, _, rfl, rfl, SqL.of hp, i2 rfl, _, _, rfl, rfl, ?_⟩
    refine ⟨_, rfl, p, _, 2, 2, rfl, rfl, hp, rfl, ?_⟩
    refine ⟨fun σ' H' => H' = upd H p (.lst [.int w0, .int w1, .int (w2 + 1)]) ∧ ∃ M : Int, 0 ≤ M ∧ M < 10 ^ 41 ∧ σ' = [some (.ref p), some (.int many), none, some (.int M)], ?_, ?_⟩
    · have b1 : CPowW (w1 + 99991 * (w2 + 1)) 3 := powW (a := 201) (by omega) (by decide) (by decide) (by decide)
      refine ⟨_, rfl, p, _, 1, _, rfl, rfl, SqL.of upd_same, i1 rfl, _, rfl, p, _, 2, _, rfl, rfl, SqL.of upd_same, i2 rfl, _, _, rfl, rfl, .inl (by decide), _, _, rfl, rfl, _, _, rfl, rfl, b1, .inl ⟨_, rfl, _, _, rfl, rfl, (by show (0 : Int) < 618970019642690137449562111; decide), ?_⟩⟩
      refine ⟨rfl, _, Int.emod_nonneg _ (by decide), Int.lt_of_lt_of_le (Int.emod_lt_of_pos _ (by decide)) (by decide), rfl⟩
    rintro σ' H' ⟨rfl, M, m0, m1, rfl⟩
    have b2 : CPowW (M + 15485863 * (w2 + 1)) 3 := powW (a := 201) (by omega) (by decide) (by decide) (by decide)
    refine ⟨fun σ' H' => H' = upd H p (.lst [.int w0, .int w1, .int (w2 + 1)]) ∧ ∃ M : Int, σ' = [some (.ref p), some (.int many), none, some (.int M)], ?_, ?_⟩
    · refine ⟨_, rfl, _, rfl, p, _, 2, _, rfl, rfl, SqL.of upd_same, i2 rfl, _, _, rfl, rfl, .inl (by decide), _, _, rfl, rfl, _, _, rfl, rfl, b2, .inl ⟨_, rfl, _, _, rfl, rfl, (by show (0 : Int) < 2305843009213693951; decide), ?_⟩⟩
      exact ⟨rfl, _, rfl⟩
    rintro σ' H' ⟨rfl, M2, rfl⟩
    refine ⟨_, rfl, _, _, rfl, rfl, ⟨by decide, by decide⟩, _, _, rfl, rfl, wide_div (b := 200) (by decide) (by decide) (by decide) (by decide), .inl ⟨_, rfl, _, rfl, _, _, rfl, rfl, hm0, ?_⟩⟩
    exact k _ _ (Int.emod_nonneg _ (by omega)) (Int.emod_lt_of_pos _ hm0) ⟨_, _, _, upd_same, h10, h11, by omega, by omega⟩ (But.mut hmu)
end
end Y

/-! # draws of the second group: labels, amounts, steps -/
namespace Y
open PySem L2 M
theorem _root_.L2.But.two {p f : Addr} {H H1 : Hp} {o : HO} (b : But p H H1) (hf : H1 f = none) (hpf : p ≠ f) : But p H (upd H1 f o) := b.trans (Same.new hf).but
theorem steps_imm2 {ds : List PyData} (h : ∀ d ∈ ds, d ∈ STEPSD) : immAll ds = true := imm_all fun d hd => (step_is d (h d hd)).2.2.1
def spLabel : Sp := fun vs H Q _ => ∃ (p : Addr) (B : Int), vs = [.ref p] ∧ WellAt H p B ∧ B < 2 ^ 50 ∧ ∀ (r : Int) (H' : Hp), isLabelD (.int r) = true → WellAt H' p (B + 5) → But p H H' → Q (.int r) H'
def spAmount : Sp := fun vs H Q _ => ∃ (p : Addr) (B : Int), vs = [.ref p] ∧ WellAt H p B ∧ B < 2 ^ 50 ∧ ∀ (r : Int) (H' : Hp), isAmountD (.int r) = true → WellAt H' p (B + 5) → But p H H' → Q (.int r) H'
def spStep (K : PySem.W.Frag) : Sp := fun vs H Q _ => ∃ (p : Addr) (B : Int), vs = [.ref p] ∧ WellAt H p B ∧ B < 2 ^ 50 ∧ ∀ (v : V) (d : PyData) (H' : Hp), d ∈ STEPSD → Dp K H' v d → WellAt H' p (B + 1) → But p H H' → Q v H'
def spSteps2 (K : PySem.W.Frag) : Sp := fun vs H Q _ => ∃ (p : Addr) (most B : Int), vs = [.ref p, .int most] ∧ WellAt H p B ∧ B < 2 ^ 45 ∧ 0 ≤ most ∧ most ≤ 100 ∧
  ∀ (v : V) (ds : List PyData) (H' : Hp), But p H H' → WellAt H' p (B + 200) → Dp K H' v (.tuple ds) → (∀ d ∈ ds, d ∈ STEPSD) → (ds.length : Int) ≤ most → Q v H'
section
variable {P : Program} {w : World} {K : PySem.W.Frag} {mg : Str → Option Value} {base : Heap}
theorem ok_label (T : Tx K mg) : FnOk P w K mg base CX0 2 T.label.a T.label.fd ["well"] spLabel := by
  have G_draw := ok_draw (P := P) (w := w) (base := base) T
  refine T.label.F.ok sc_label (fun vs H Q E h => by obtain ⟨p, B, rfl, _⟩ := h; rfl) (fun cdv A outer s H vs Q E hr h => ?_)
  obtain ⟨p, B, rfl, hw, hB, q⟩ := h
  refine ⟨_, (pss_cons (ps_par (i := 1) (j := 2) rfl sc_label.nd rfl rfl (by decide) rfl rfl (pa_cons (pe_call G_draw (hr.mono (by first | decide | omega)) rfl T.draw.g T.draw.F.kp T.draw.b .nil pass0 (pa_cons (pv 0) (pa_cons (pe_op op_powW pe_int pe_int) pa_nil))) (pa_cons (pe_op op_sub (pe_op op_sub (pe_op op_powW pe_int pe_int) pe_int) (pe_call G_draw (hr.mono (by first | decide | omega)) rfl T.draw.g T.draw.F.kp T.draw.b .nil pass0 (pa_cons (pv 0) (pa_cons pe_int pa_nil)))) pa_nil)) rfl)
  (pss_one (ps_ret (pe_ix (ix_listK K) (pe_lst (pa_cons (pe_call G_draw (hr.mono (by first | decide | omega)) rfl T.draw.g T.draw.F.kp T.draw.b .nil pass0 (pa_cons (pv 0) (pa_cons pe_int pa_nil))) (pa_cons (pe_call G_draw (hr.mono (by first | decide | omega)) rfl T.draw.g T.draw.F.kp T.draw.b .nil pass0 (pa_cons (pv 0) (pa_cons pe_int pa_nil))) (pa_cons (pv 1) (pa_cons (pv 2) pa_nil))))) (pe_call G_draw (hr.mono (by first | decide | omega)) rfl T.draw.g T.draw.F.kp T.draw.b .nil pass0 (pa_cons (pv 0) (pa_cons pe_int pa_nil))) (fun _ _ => rfl))))), ?_⟩
  have c30 : CPowW 10 30 := ⟨by decide, by decide⟩
  refine ⟨_, rfl, _, _, rfl, rfl, c30, p, _, B, rfl, hw, by omega, by decide, by decide, fun far H1 f0 f1 w1 b1 => ?_⟩
  refine ⟨_, _, rfl, rfl, c30, _, _, rfl, rfl, _, rfl, p, 2, B + 1, rfl, w1, by omega, by decide, by decide, fun g H2 g0 g1 w2 b2 => ⟨_, _, rfl, rfl, _, _, rfl, ?_⟩⟩
  refine ⟨_, rfl, p, 4, B + 1 + 1, rfl, w2, by omega, by decide, by decide, fun x H3 x0 x1 w3 b3 => ?_⟩
  refine ⟨_, rfl, p, 4, B + 1 + 1 + 1, rfl, w3, by omega, by decide, by decide, fun y H4 y0 y1 w4 b4 => ?_⟩
  refine ⟨_, rfl, _, rfl, line_of (by show 4 ≤ 100000; decide), fun l nl => ?_⟩
  have e30 : (10 : Int) ^ Int.toNat 30 = 1000000000000000000000000000000 := by decide
  have w5 := w4.same (Same.new (o := .lst [.int x, .int y, .int far, .int (10 ^ Int.toNat 30 - 1 - g)]) nl)
  have hpl : p ≠ l := by
    obtain ⟨_, _, _, hp4, _⟩ := w4
    exact ne_of_none hp4 nl
  refine ⟨_, rfl, p, 4, B + 1 + 1 + 1 + 1, rfl, w5, by omega, by decide, by decide, fun z H5 z0 z1 w6 b5 => ?_⟩
  have hl5 := b5.keep _ _ upd_same hpl.symm
  have bb : But p H H5 := ((((b1.trans b2).trans b3).trans b4).two nl hpl).trans b5
  have w7 := w6.mono (B' := B + 5) (by omega)
  have hz : z = 0 ∨ z = 1 ∨ z = 2 ∨ z = 3 := by omega
  rcases hz with rfl | rfl | rfl | rfl
  · exact ⟨l, _, 0, _, rfl, rfl, SqL.of hl5, rfl, q _ H5 (decide_eq_true ⟨by omega, by omega⟩) w7 bb⟩
  · exact ⟨l, _, 1, _, rfl, rfl, SqL.of hl5, rfl, q _ H5 (decide_eq_true ⟨by omega, by omega⟩) w7 bb⟩
  · exact ⟨l, _, 2, _, rfl, rfl, SqL.of hl5, rfl, q far H5 (decide_eq_true ⟨by omega, by rw [e30] at f1; omega⟩) w7 bb⟩
  · exact ⟨l, _, 3, _, rfl, rfl, SqL.of hl5, rfl, q (10 ^ Int.toNat 30 - 1 - g) H5 (decide_eq_true ⟨by rw [e30]; omega, by rw [e30]; omega⟩) w7 bb⟩
theorem ok_amount (T : Tx K mg) : FnOk P w K mg base CX0 2 T.amount.a T.amount.fd ["well"] spAmount := by
  have G_draw := ok_draw (P := P) (w := w) (base := base) T
  refine T.amount.F.ok sc_amount (fun vs H Q E h => by obtain ⟨p, B, rfl, _⟩ := h; rfl) (fun cdv A outer s H vs Q E hr h => ?_)
  obtain ⟨p, B, rfl, hw, hB, q⟩ := h
  refine ⟨_, (pss_cons (ps_par (i := 1) (j := 2) rfl sc_amount.nd rfl rfl (by decide) rfl rfl (pa_cons (pe_op op_sub (pe_call G_draw (hr.mono (by first | decide | omega)) rfl T.draw.g T.draw.F.kp T.draw.b .nil pass0 (pa_cons (pv 0) (pa_cons (pe_op op_add (pe_op op_mul pe_int (pe_op op_powW pe_int pe_int)) pe_int) pa_nil))) (pe_op op_powW pe_int pe_int)) (pa_cons (pe_op op_powW pe_int pe_int) pa_nil)) rfl)
  (pss_one (ps_ret (pe_ix (ix_listK K) (pe_lst (pa_cons (pe_op op_sub (pe_call G_draw (hr.mono (by first | decide | omega)) rfl T.draw.g T.draw.F.kp T.draw.b .nil pass0 (pa_cons (pv 0) (pa_cons pe_int pa_nil))) pe_int) (pa_cons (pe_op op_sub (pe_call G_draw (hr.mono (by first | decide | omega)) rfl T.draw.g T.draw.F.kp T.draw.b .nil pass0 (pa_cons (pv 0) (pa_cons pe_int pa_nil))) pe_int) (pa_cons (pv 1) (pa_cons (pv 2) (pa_cons (pe_un un_neg (pv 2)) pa_nil)))))) (pe_call G_draw (hr.mono (by first | decide | omega)) rfl T.draw.g T.draw.F.kp T.draw.b .nil pass0 (pa_cons (pv 0) (pa_cons pe_int pa_nil))) (fun _ _ => rfl))))), ?_⟩
  have c12 : CPowW 10 12 := ⟨by decide, by decide⟩
  have e12 : (10 : Int) ^ Int.toNat 12 = 1000000000000 := by decide
  refine ⟨_, rfl, _, _, rfl, rfl, c12, _, _, rfl, rfl, .inl (by decide), _, _, rfl, rfl, p, _, B, rfl, hw, by omega, by decide, by decide, fun far H1 f0 f1 w1 b1 => ⟨_, _, rfl, rfl, c12, _, _, rfl, rfl, _, _, rfl, rfl, c12, _, _, rfl, ?_⟩⟩
  refine ⟨_, rfl, p, 5, B + 1, rfl, w1, by omega, by decide, by decide, fun x H3 x0 x1 w3 b3 => ⟨_, _, rfl, rfl, ?_⟩⟩
  refine ⟨_, rfl, p, 5, B + 1 + 1, rfl, w3, by omega, by decide, by decide, fun y H4 y0 y1 w4 b4 => ⟨_, _, rfl, rfl, ?_⟩⟩
  refine ⟨_, rfl, _, rfl, _, rfl, _, rfl, line_of (by show 5 ≤ 100000; decide), fun l nl => ?_⟩
  have hpl : p ≠ l := by
    obtain ⟨_, _, _, hp4, _⟩ := w4
    exact ne_of_none hp4 nl
  have w5 := w4.same (Same.new (o := .lst [.int (x - 2), .int (y - 2), .int (far - 10 ^ Int.toNat 12), .int (10 ^ Int.toNat 12), .int (-(10 ^ Int.toNat 12))]) nl)
  refine ⟨_, rfl, p, 5, B + 1 + 1 + 1, rfl, w5, by omega, by decide, by decide, fun z H5 z0 z1 w6 b5 => ?_⟩
  have hl5 := b5.keep _ _ upd_same hpl.symm
  have bb : But p H H5 := (((b1.trans b3).trans b4).two nl hpl).trans b5
  have w7 := w6.mono (B' := B + 5) (by omega)
  have f1 : far < 2 * 10 ^ Int.toNat 12 + 1 := f1
  rw [e12] at f1
  have hz : z = 0 ∨ z = 1 ∨ z = 2 ∨ z = 3 ∨ z = 4 := by omega
  rcases hz with rfl | rfl | rfl | rfl | rfl
  · exact ⟨l, _, 0, _, rfl, rfl, SqL.of hl5, rfl, q (x - 2) H5 (decide_eq_true ⟨by omega, by omega⟩) w7 bb⟩
  · exact ⟨l, _, 1, _, rfl, rfl, SqL.of hl5, rfl, q (y - 2) H5 (decide_eq_true ⟨by omega, by omega⟩) w7 bb⟩
  · exact ⟨l, _, 2, _, rfl, rfl, SqL.of hl5, rfl, q (far - 10 ^ Int.toNat 12) H5 (decide_eq_true ⟨by rw [e12]; omega, by rw [e12]; omega⟩) w7 bb⟩
  · exact ⟨l, _, 3, _, rfl, rfl, SqL.of hl5, rfl, q (10 ^ Int.toNat 12) H5 (by decide +kernel) w7 bb⟩
  · exact ⟨l, _, 4, _, rfl, rfl, SqL.of hl5, rfl, q (-(10 ^ Int.toNat 12)) H5 (by decide +kernel) w7 bb⟩
theorem ok_step (T : Tx K mg) : FnOk P w K mg base CX0 2 T.step.a T.step.fd ["well"] (spStep K) := by
  have G_draw := ok_draw (P := P) (w := w) (base := base) T
  refine T.step.F.ok sc_step (fun vs H Q E h => by obtain ⟨p, B, rfl, _⟩ := h; rfl) (fun cdv A outer s H vs Q E hr h => ?_)
  obtain ⟨p, B, rfl, hw, hB, q⟩ := h
  refine ⟨_, (pss_cons (ps_set (i := 1) sc_step.nd rfl (Or.inl rfl) (pe_call G_draw (hr.mono (by first | decide | omega)) rfl T.draw.g T.draw.F.kp T.draw.b .nil pass0 (pa_cons (pv 0) (pa_cons pe_int pa_nil))))
  (pss_cons (ps_if (pt_cmpR op_lt (pv 1) pe_int (nomark _))
  (pss_one (ps_ret (pe_tup (pa_cons pe_str (pa_cons (pe_ix (ix_listK K) (pe_lst (pa_cons pe_str (pa_cons pe_str pa_nil))) (pv 1) (fun _ _ => rfl)) pa_nil)))))
  pss_nil)
  (pss_cons (ps_if (pt_cmpR op_eq (pv 1) pe_int (nomark _))
  (pss_one (ps_ret (pe_tup (pa_cons pe_str pa_nil))))
  pss_nil)
  (pss_one (ps_ret (pe_tup (pa_cons (pe_ix (ix_listK K) (pe_lst (pa_cons pe_str (pa_cons pe_str (pa_cons pe_str pa_nil)))) (pe_op op_fdivW (pe_op op_sub (pv 1) pe_int) pe_int) (fun _ _ => rfl)) (pa_cons (pe_ix (ix_listK K) (pe_lst (pa_cons pe_str (pa_cons pe_str (pa_cons pe_str pa_nil)))) (pe_op op_mod (pe_op op_sub (pv 1) pe_int) pe_int) (fun _ _ => rfl)) pa_nil)))))))), ?_⟩
  refine ⟨_, rfl, p, 12, B, rfl, hw, by omega, by decide, by decide, fun z H1 z0 z1 w1 b1 => ?_⟩
  refine ⟨_, rfl, _, _, rfl, rfl, _, rfl, iteB (fun c => ?_) (fun c => ?_)⟩
  · have c := of_decide_eq_true c
    refine ⟨line_of (by show 2 ≤ 100000; decide), fun l nl => ⟨_, rfl, ?_⟩⟩
    have hpl : p ≠ l := by
      obtain ⟨_, _, _, hp4, _⟩ := w1
      exact ne_of_none hp4 nl
    have hz : z = 0 ∨ z = 1 := by omega
    rcases hz with rfl | rfl
    · refine ⟨l, _, 0, .str "all", rfl, rfl, SqL.of upd_same, rfl, line_of (by show 2 ≤ 100000; decide), fun t nt => ?_⟩
      exact q (.ref t) (.tuple [.str "make", .str "all"]) _ (by simp [STEPSD]) (.tupOf upd_same (.cons (.str _) (.one (.str _)))) ((w1.same (Same.new nl)).same (Same.new nt)) ((b1.two nl hpl).trans (Same.new nt).but)
    · refine ⟨l, _, 1, .str "standing", rfl, rfl, SqL.of upd_same, rfl, line_of (by show 2 ≤ 100000; decide), fun t nt => ?_⟩
      exact q (.ref t) (.tuple [.str "make", .str "standing"]) _ (by simp [STEPSD]) (.tupOf upd_same (.cons (.str _) (.one (.str _)))) ((w1.same (Same.new nl)).same (Same.new nt)) ((b1.two nl hpl).trans (Same.new nt).but)
  have c := of_decide_eq_false c
  refine ⟨_, rfl, rfl, _, rfl, iteB (fun c2 => ?_) (fun c2 => ?_)⟩
  · refine ⟨line_of (by show 1 ≤ 100000; decide), fun t nt => ?_⟩
    exact q (.ref t) (.tuple [.str "drop"]) _ (by simp [STEPSD]) (.tupOf upd_same (.one (.str _))) (w1.same (Same.new nt)) (b1.trans (Same.new nt).but)
  have c2 : ¬ z = 11 := fun e => by rw [e] at c2; exact absurd c2 (by decide)
  refine ⟨line_of (by show 3 ≤ 100000; decide), fun l nl => ⟨_, rfl, _, _, rfl, rfl, _, _, rfl, rfl, wide_div (b := 200) (by decide) (by decide) (by decide) (by decide), ?_⟩⟩
  have hpl : p ≠ l := by
    obtain ⟨_, _, _, hp4, _⟩ := w1
    exact ne_of_none hp4 nl
  have hz : z = 2 ∨ z = 3 ∨ z = 4 ∨ z = 5 ∨ z = 6 ∨ z = 7 ∨ z = 8 ∨ z = 9 ∨ z = 10 := by omega
  have fin : ∀ (a b : Str), .tuple [.str a, .str b] ∈ STEPSD → ∀ (m t : Addr) (ys : List V) (H2 : Hp), H2 = upd H1 l (.lst [.str "start", .str "label", .str "tie"]) → H2 m = none → upd H2 m (.lst ys) t = none → Q (.ref t) (upd (upd H2 m (.lst ys)) t (.tup [.str a, .str b])) := by
    intro a b hab m t ys H2 e nm nt
    subst e
    exact q (.ref t) (.tuple [.str a, .str b]) _ hab (.tupOf upd_same (.cons (.str _) (.one (.str _)))) (((w1.same (Same.new nl)).same (Same.new nm)).same (Same.new nt)) (((b1.two nl hpl).trans (Same.new nm).but).trans (Same.new nt).but)
  rcases hz with rfl | rfl | rfl | rfl | rfl | rfl | rfl | rfl | rfl
  · exact ⟨l, _, _, .str "start", rfl, rfl, SqL.of upd_same, rfl, line_of (by show 3 ≤ 100000; decide), fun m nm => ⟨_, rfl, _, _, rfl, rfl, _, _, rfl, rfl, (by show (0 : Int) < 3; decide), m, _, _, .str "new", rfl, rfl, SqL.of upd_same, rfl, line_of (by show 2 ≤ 100000; decide), fun t nt => fin "start" "new" (by simp [STEPSD]) m t _ _ rfl nm nt⟩⟩
  · exact ⟨l, _, _, .str "start", rfl, rfl, SqL.of upd_same, rfl, line_of (by show 3 ≤ 100000; decide), fun m nm => ⟨_, rfl, _, _, rfl, rfl, _, _, rfl, rfl, (by show (0 : Int) < 3; decide), m, _, _, .str "all", rfl, rfl, SqL.of upd_same, rfl, line_of (by show 2 ≤ 100000; decide), fun t nt => fin "start" "all" (by simp [STEPSD]) m t _ _ rfl nm nt⟩⟩
  · exact ⟨l, _, _, .str "start", rfl, rfl, SqL.of upd_same, rfl, line_of (by show 3 ≤ 100000; decide), fun m nm => ⟨_, rfl, _, _, rfl, rfl, _, _, rfl, rfl, (by show (0 : Int) < 3; decide), m, _, _, .str "free", rfl, rfl, SqL.of upd_same, rfl, line_of (by show 2 ≤ 100000; decide), fun t nt => fin "start" "free" (by simp [STEPSD]) m t _ _ rfl nm nt⟩⟩
  · exact ⟨l, _, _, .str "label", rfl, rfl, SqL.of upd_same, rfl, line_of (by show 3 ≤ 100000; decide), fun m nm => ⟨_, rfl, _, _, rfl, rfl, _, _, rfl, rfl, (by show (0 : Int) < 3; decide), m, _, _, .str "new", rfl, rfl, SqL.of upd_same, rfl, line_of (by show 2 ≤ 100000; decide), fun t nt => fin "label" "new" (by simp [STEPSD]) m t _ _ rfl nm nt⟩⟩
  · exact ⟨l, _, _, .str "label", rfl, rfl, SqL.of upd_same, rfl, line_of (by show 3 ≤ 100000; decide), fun m nm => ⟨_, rfl, _, _, rfl, rfl, _, _, rfl, rfl, (by show (0 : Int) < 3; decide), m, _, _, .str "all", rfl, rfl, SqL.of upd_same, rfl, line_of (by show 2 ≤ 100000; decide), fun t nt => fin "label" "all" (by simp [STEPSD]) m t _ _ rfl nm nt⟩⟩
  · exact ⟨l, _, _, .str "label", rfl, rfl, SqL.of upd_same, rfl, line_of (by show 3 ≤ 100000; decide), fun m nm => ⟨_, rfl, _, _, rfl, rfl, _, _, rfl, rfl, (by show (0 : Int) < 3; decide), m, _, _, .str "free", rfl, rfl, SqL.of upd_same, rfl, line_of (by show 2 ≤ 100000; decide), fun t nt => fin "label" "free" (by simp [STEPSD]) m t _ _ rfl nm nt⟩⟩
  · exact ⟨l, _, _, .str "tie", rfl, rfl, SqL.of upd_same, rfl, line_of (by show 3 ≤ 100000; decide), fun m nm => ⟨_, rfl, _, _, rfl, rfl, _, _, rfl, rfl, (by show (0 : Int) < 3; decide), m, _, _, .str "new", rfl, rfl, SqL.of upd_same, rfl, line_of (by show 2 ≤ 100000; decide), fun t nt => fin "tie" "new" (by simp [STEPSD]) m t _ _ rfl nm nt⟩⟩
  · exact ⟨l, _, _, .str "tie", rfl, rfl, SqL.of upd_same, rfl, line_of (by show 3 ≤ 100000; decide), fun m nm => ⟨_, rfl, _, _, rfl, rfl, _, _, rfl, rfl, (by show (0 : Int) < 3; decide), m, _, _, .str "all", rfl, rfl, SqL.of upd_same, rfl, line_of (by show 2 ≤ 100000; decide), fun t nt => fin "tie" "all" (by simp [STEPSD]) m t _ _ rfl nm nt⟩⟩
  · exact ⟨l, _, _, .str "tie", rfl, rfl, SqL.of upd_same, rfl, line_of (by show 3 ≤ 100000; decide), fun m nm => ⟨_, rfl, _, _, rfl, rfl, _, _, rfl, rfl, (by show (0 : Int) < 3; decide), m, _, _, .str "free", rfl, rfl, SqL.of upd_same, rfl, line_of (by show 2 ≤ 100000; decide), fun t nt => fin "tie" "free" (by simp [STEPSD]) m t _ _ rfl nm nt⟩⟩
theorem ok_steps (T : Tx K mg) : FnOk P w K mg base CX0 3 T.steps.a T.steps.fd ["well", "most"] (spSteps2 K) := by
  have G_draw := ok_draw (P := P) (w := w) (base := base) T
  have G_step := ok_step (P := P) (w := w) (base := base) T
  refine T.steps.F.ok sc_steps (fun vs H Q E h => by obtain ⟨p, most, B, rfl, _⟩ := h; rfl) (fun cdv A outer s H vs Q E hr h => ?_)
  obtain ⟨p, most, B, rfl, hw, hB, hm0, hm1, q⟩ := h
  refine ⟨_, (pss_one (ps_ret (pe_callTy (call_tupK K) (by rfl) T.b_tuple (by decide +kernel) (pa_cons (pe_lc (own := [("turn", 2)]) (g := (gName 2)) (tt := tYes) rfl sc_steps.nd (pi_range1 (by rfl) T.b_range (pa_cons (pe_call G_draw (hr.mono (by first | decide | omega)) rfl T.draw.g T.draw.F.kp T.draw.b .nil pass0 (pa_cons (pv 0) (pa_cons (pe_op op_add (pv 1) pe_int) pa_nil))) pa_nil)) (blkOk_by (N := ["well", "most", "turn"]) (sc := defScope s_steps) (by decide +kernel)) (fun _ _ _ _ _ => pg_name (i := 2) sc_steps.nd rfl (Or.inl rfl)) (fun _ _ _ _ _ => pts_nil) (fun _ _ _ _ _ => (pe_call G_step (hr.mono (by first | decide | omega)) rfl T.step.g T.step.F.kp T.step.b .nil pass0 (pa_cons (pv 0) pa_nil)))) pa_nil)))), ?_⟩
  obtain ⟨w0, w1, w2, hp, _⟩ := id hw
  refine ⟨_, rfl, _, rfl, _, _, rfl, rfl, p, most + 1, B, rfl, hw, by omega, by omega, by omega, fun n H1 n0 n1 w4 b4 => ?_⟩
  obtain ⟨_, _, _, hp1, _⟩ := id w4
  refine ⟨n, rfl, by omega, by omega, fun f hf => ?_⟩
  have hpf : p ≠ f := ne_of_none hp1 hf
  have nf : H f = none := b4.free hpf hf
  refine lc_range (n := n.toNat) (fun i H' => ∃ ys es, But p H H' ∧ WellAt H' p (B + 1 + i) ∧ H' f = some (.lst ys) ∧ DpAll K H' ys es ∧ (∀ d ∈ es, d ∈ STEPSD) ∧ es.length = i) ⟨[], [], b4.two hf hpf, by
    have := w4.same (Same.new (o := .lst []) hf)
    simpa using this, upd_same, .nil, by simp, rfl⟩ ?_ ?_
  · rintro i H' hi ⟨ys, es, b, wl, h3, h4, h5, h6⟩
    refine ⟨rfl, _, rfl, p, B + 1 + i, rfl, wl, by omega, fun v d H4 hd hv w5 b5 => ?_⟩
    have hf4 : H4 f = some (.lst ys) := b5.keep _ _ h3 hpf.symm
    have hyl := h4.length
    have mf : Mut (H4 f) := by rw [hf4]; trivial
    have t : Tups H4 (upd H4 f (.lst (ys ++ [v]))) := Tups.mut mf
    refine ⟨ys, hf4, line_lt (by omega), ys ++ [v], es ++ [d], (b.trans b5).new nf (.inr mf), ?_, upd_same, ?_, ?_, ?_⟩
    · obtain ⟨z0, z1, z2, e1, e2, e3, e4, e5⟩ := w5
      exact ⟨z0, z1, z2, by rw [upd_ne hpf]; exact e1, e2, e3, e4, by omega⟩
    · exact (t.dpAll (steps_imm2 h5) (b5.tups.dpAll (steps_imm2 h5) h4)).append (.one (t.dp (step_is _ hd).2.2.1 hv))
    · intro x hx
      rcases List.mem_append.mp hx with hx | hx
      · exact h5 x hx
      · rw [List.mem_singleton.mp hx]; exact hd
    · rw [List.length_append, h6]; rfl
  · rintro H' ⟨ys, es, b, wl, h3, h4, h5, h6⟩
    refine ⟨f, ys, rfl, .inl ⟨SqL.of h3, fun l hl => ?_⟩⟩
    exact q (.ref l) es _ (b.trans (Same.new hl).but) ((wl.same (Same.new hl)).mono (by omega)) (.tupOf upd_same ((Same.new hl).dpAll h4)) h5 (by omega)
end
end Y

/-! # _law_like: the same thing, kind by kind -/
namespace Y
open PySem L2 M
def okL : Nat → PyData → Bool
  | 0, _ => false
  | _, .str _ => true
  | _, .int _ => true
  | _, .bool _ => true
  | _, .none => true
  | n + 1, .list ds => decide (ds.length ≤ 10000) && ds.all (okL n)
  | n + 1, .tuple ds => decide (ds.length ≤ 10000) && ds.all (okL n)
  | _, _ => false
def spLike (K : PySem.W.Frag) (n : Nat) : Sp := fun vs H Q _ => ∃ (x y : V) (d : PyData), vs = [x, y] ∧ Dp K H x d ∧ Dp K H y d ∧ okL n d = true ∧ ∀ H', Same H H' → Q (.bl true) H'
section
variable {P : Program} {w : World} {K : PySem.W.Frag} {mg : Str → Option Value} {base : Heap}
theorem fn_falseL {k : Nat} {f : Addr} {fd : FuncData} {ps : List Str} {sp : Sp} (h : ∀ vs H Q E, ¬ sp vs H Q E) : FnOk P w K mg base CX0 k f fd ps sp :=
  ⟨fun _ _ _ _ z => (h _ _ _ _ z).elim, fun _ _ _ _ _ _ _ _ _ _ _ _ _ z => (h _ _ _ _ z).elim⟩
theorem ok_like (T : Tx K mg) : ∀ n : Nat, FnOk P w K mg base CX0 (n + 1) T.like.a T.like.fd ["told", "due"] (spLike K n) := by
  intro n
  induction n with
  | zero => exact fn_falseL fun vs H Q E ⟨_, _, d, _, _, _, hd, _⟩ => by simp [okL] at hd
  | succ n ih =>
    have G_like := ih
    refine T.like.F.ok sc_like (fun vs H Q E h => by obtain ⟨x, y, d, rfl, _⟩ := h; rfl) (fun cdv A outer s H vs Q E hr h => ?_)
    obtain ⟨x, y, d, rfl, hx, hy, hd, q⟩ := h
    refine ⟨_, (pss_cons (ps_if (pt_cmpR op_isN (pv 1) pe_non (nomark _))
  (pss_one (ps_ret (pe_cmpR op_isN (pv 0) pe_non (nomark _))))
  pss_nil)
  (pss_cons (ps_if (pt_val (pe_callB (call_isTDK K) (by rfl) T.b_isinstance (by decide +kernel) (pa_cons (pv 1) (pa_cons (pe_tup (pa_cons (pe_bltn (v := .ty "list") (by rfl) T.b_list (by decide +kernel) rfl) (pa_cons (pe_bltn (v := .ty "tuple") (by rfl) T.b_tuple (by decide +kernel) rfl) pa_nil))) pa_nil))))
  (pss_cons (ps_if (PW.pt (pw_or (pt_cmpR op_ne (pe_callB (call_isDK K) (by rfl) T.b_isinstance (by decide +kernel) (pa_cons (pv 0) (pa_cons (pe_bltn (v := .ty "list") (by rfl) T.b_list (by decide +kernel) rfl) pa_nil))) (pe_callB (call_isDK K) (by rfl) T.b_isinstance (by decide +kernel) (pa_cons (pv 1) (pa_cons (pe_bltn (v := .ty "list") (by rfl) T.b_list (by decide +kernel) rfl) pa_nil))) (nomark _)) (pw_or1 (pt_cmpR op_ne (pe_callB (call_isDK K) (by rfl) T.b_isinstance (by decide +kernel) (pa_cons (pv 0) (pa_cons (pe_bltn (v := .ty "tuple") (by rfl) T.b_tuple (by decide +kernel) rfl) pa_nil))) (pe_callB (call_isDK K) (by rfl) T.b_isinstance (by decide +kernel) (pa_cons (pv 1) (pa_cons (pe_bltn (v := .ty "tuple") (by rfl) T.b_tuple (by decide +kernel) rfl) pa_nil))) (nomark _)))))
  (pss_one (ps_ret pe_bl))
  pss_nil)
  (pss_one (ps_ret (pe_and (pe_cmpR op_eq (pe_callB (call_lenK K) (by rfl) T.b_len (by decide +kernel) (pa_cons (pv 0) pa_nil)) (pe_callB (call_lenK K) (by rfl) T.b_len (by decide +kernel) (pa_cons (pv 1) pa_nil)) (nomark _)) (pe_one (pe_callB (cr_allK K rfl) (by rfl) T.b_all (by decide +kernel) (pa_cons (pe_lc (own := [("k", 2)]) (g := (gName 2)) (tt := tYes) rfl sc_like.nd (pi_range1 (by rfl) T.b_range (pa_cons (pe_callB (call_lenK K) (by rfl) T.b_len (by decide +kernel) (pa_cons (pv 1) pa_nil)) pa_nil)) (blkOk_by (N := ["told", "due", "k"]) (sc := defScope s_like) (by decide +kernel)) (fun _ _ _ _ _ => pg_name (i := 2) sc_like.nd rfl (Or.inl rfl)) (fun _ _ _ _ _ => pts_nil) (fun _ _ _ _ _ => (pe_call G_like (hr.mono (by first | decide | omega)) rfl T.like.g T.like.F.kp T.like.b .nil pass0 (pa_cons (pe_ix (ix_seqK K) (pv 0) (pv 2) (fun _ _ => rfl)) (pa_cons (pe_ix (ix_seqK K) (pv 1) (pv 2) (fun _ _ => rfl)) pa_nil))))) pa_nil)))))))
  pss_nil)
  (pss_cons (ps_if (pt_val (pe_callB (call_isTDK K) (by rfl) T.b_isinstance (by decide +kernel) (pa_cons (pv 1) (pa_cons (pe_tup (pa_cons (pe_bltn (v := .ty "bool") (by rfl) T.b_bool (by decide +kernel) rfl) (pa_cons (pe_bltn (v := .ty "str") (by rfl) T.b_str (by decide +kernel) rfl) pa_nil))) pa_nil))))
  (pss_one (ps_ret (pe_and (pe_cmpR op_eq (pe_callB (call_isDK K) (by rfl) T.b_isinstance (by decide +kernel) (pa_cons (pv 0) (pa_cons (pe_bltn (v := .ty "bool") (by rfl) T.b_bool (by decide +kernel) rfl) pa_nil))) (pe_callB (call_isDK K) (by rfl) T.b_isinstance (by decide +kernel) (pa_cons (pv 1) (pa_cons (pe_bltn (v := .ty "bool") (by rfl) T.b_bool (by decide +kernel) rfl) pa_nil))) (nomark _)) (pe_one (pe_cmpR (op_eqAK K (hu65 hr)) (pv 0) (pv 1) (nomark _))))))
  pss_nil)
  (pss_one (ps_ret (pe_and (pe_callB (call_isDK K) (by rfl) T.b_isinstance (by decide +kernel) (pa_cons (pv 0) (pa_cons (pe_bltn (v := .ty "int") (by rfl) T.b_int (by decide +kernel) rfl) pa_nil))) (pe_and (pe_not (pe_callB (call_isDK K) (by rfl) T.b_isinstance (by decide +kernel) (pa_cons (pv 0) (pa_cons (pe_bltn (v := .ty "bool") (by rfl) T.b_bool (by decide +kernel) rfl) pa_nil)))) (pe_one (pe_cmpR (op_eqAK K (hu65 hr)) (pv 0) (pv 1) (nomark _)))))))))), ?_⟩
    by_cases hn : d = .none
    · subst hn
      obtain rfl := hx.non_inv; obtain rfl := hy.non_inv
      refine ⟨_, rfl, rfl, _, rfl, iteT' rfl ?_⟩
      exact ⟨_, rfl, rfl, q H (Same.refl H)⟩
    have ny : decide (y = V.non) = false := decide_eq_false fun e => hn (by subst e; cases hy; rfl)
    refine ⟨_, rfl, rfl, _, rfl, iteF' ny ?_⟩
    refine ⟨_, rfl, line_of (by show 2 ≤ 100000; decide), fun tp np => ⟨y, tp, ["list", "tuple"], tyD d, rfl, upd_same, ((Same.new np).dp hy).ty, tyD_mem d, by decide, _, rfl, ?_⟩⟩
    have s1 : Same H (upd H tp (.tup [.ty "list", .ty "tuple"])) := Same.new np
    generalize hH : upd H tp (.tup [.ty "list", .ty "tuple"]) = H1 at s1
    have e1 : upd H tp (HO.tup (List.map V.ty ["list", "tuple"])) = H1 := hH
    clear hH e1
    replace hx := s1.dp hx
    replace hy := s1.dp hy
    replace q : ∀ H', Same H1 H' → Q (.bl true) H' := fun H' s2 => q H' (s1.trans s2)
    by_cases hseq : ∃ ds, d = .list ds ∨ d = .tuple ds
    · obtain ⟨ds, hds⟩ := hseq
      have hok : ds.length ≤ 10000 ∧ ∀ e ∈ ds, okL n e = true := by
        rcases hds with rfl | rfl <;> (simp only [okL, Bool.and_eq_true, decide_eq_true_eq, List.all_eq_true] at hd; exact hd)
      have c : ["list", "tuple"].any (isTy (tyD d)) = true := by rcases hds with rfl | rfl <;> rfl
      refine iteT' c ?_
      refine ⟨_, rfl, x, tyD d, "list", rfl, hx.ty, tyD_mem d, by decide, _, rfl, y, tyD d, "list", rfl, hy.ty, tyD_mem d, by decide, rfl, _, rfl, iteF' (by simp) ?_⟩
      refine ⟨_, rfl, x, tyD d, "tuple", rfl, hx.ty, tyD_mem d, by decide, _, rfl, y, tyD d, "tuple", rfl, hy.ty, tyD_mem d, by decide, rfl, _, rfl, iteF' (by simp) ?_⟩
      refine ⟨_, rfl, x, ds.length, rfl, hx.len hds, _, rfl, y, ds.length, rfl, hy.len hds, rfl, _, rfl, iteT' (by simp) ?_⟩
      refine ⟨_, rfl, y, ds.length, rfl, hy.len hds, _, rfl, by omega, by omega, fun f nf => ?_⟩
      refine lc_range (n := ((ds.length : Nat) : Int).toNat) (fun i H' => Same H1 H' ∧ H' f = some (.lst (List.replicate i (.bl true)))) ⟨Same.new nf, upd_same⟩ ?_ ?_
      · rintro i H' hi ⟨s2, hf⟩
        have hi : i < ds.length := by omega
        have e0 : (0 : Int) + (i : Int) = (i : Int) := by omega
        refine ⟨rfl, _, rfl, _, rfl, ?_⟩
        show rIx K x (.int (0 + (i : Int))) H' _
        rw [e0]
        refine Dp.ix (s2.dp hx) hds (List.getElem?_eq_getElem hi) fun u hu => ⟨_, rfl, _, rfl, ?_⟩
        refine Dp.ix (s2.dp hy) hds (List.getElem?_eq_getElem hi) fun u2 hu2 => ?_
        refine ⟨u, u2, ds[i], rfl, hu, hu2, hok.2 _ (List.getElem_mem hi), fun H2 s3 => ⟨_, s3 _ _ hf, line_lt (by rw [List.length_replicate]; omega), (s2.trans s3).mut nf, ?_⟩⟩
        rw [upd_same, List.replicate_succ']
      · rintro H' ⟨s2, hf⟩
        refine ⟨f, List.replicate ds.length true, rfl, SqL.of (by rw [hf]; simp), ?_⟩
        have e : (List.replicate ds.length true).all id = true := by simp
        show Q (.bl ((List.replicate ds.length true).all id)) H'
        rw [e]; exact q H' s2
    · have c : ["list", "tuple"].any (isTy (tyD d)) = false := by
        cases d <;> first | rfl | exact absurd ⟨_, .inl rfl⟩ hseq | exact absurd ⟨_, .inr rfl⟩ hseq
      refine iteF' c ?_
      refine ⟨_, rfl, line_of (by show 2 ≤ 100000; decide), fun tp2 np2 => ⟨y, tp2, ["bool", "str"], tyD d, rfl, upd_same, ((Same.new np2).dp hy).ty, tyD_mem d, by decide, _, rfl, ?_⟩⟩
      have s2 : Same H1 (upd H1 tp2 (.tup [.ty "bool", .ty "str"])) := Same.new np2
      cases d with
      | str z =>
        cases hx.str_inv; cases hy.str_inv
        refine iteT' rfl ⟨_, rfl, _, "str", "bool", rfl, .base (.str _), by decide, by decide, _, rfl, _, "str", "bool", rfl, .base (.str _), by decide, by decide, rfl, _, rfl, iteT' rfl ⟨_, rfl, _, rfl, ?_⟩⟩
        exact .inl ⟨rfl, by rw [decide_eq_true rfl]; exact q _ s2⟩
      | bool z =>
        cases hx.bl_inv; cases hy.bl_inv
        refine iteT' rfl ⟨_, rfl, _, "bool", "bool", rfl, .base (.bl _), by decide, by decide, _, rfl, _, "bool", "bool", rfl, .base (.bl _), by decide, by decide, rfl, _, rfl, iteT' rfl ⟨_, rfl, _, rfl, ?_⟩⟩
        exact .inl ⟨rfl, by rw [decide_eq_true rfl]; exact q _ s2⟩
      | int z =>
        cases hx.int_inv; cases hy.int_inv
        refine iteF' rfl ⟨_, rfl, _, "int", "int", rfl, .base (.int _), by decide, by decide, _, rfl, iteT' rfl ⟨_, rfl, _, "int", "bool", rfl, .base (.int _), by decide, by decide, _, rfl, _, rfl, iteT' rfl ⟨_, rfl, _, rfl, ?_⟩⟩⟩
        exact .inl ⟨rfl, by rw [decide_eq_true rfl]; exact q _ s2⟩
      | list ds => exact absurd ⟨_, .inl rfl⟩ hseq
      | tuple ds => exact absurd ⟨_, .inr rfl⟩ hseq
      | none => exact absurd rfl hn
      | dict _ => simp [okL] at hd
end
end Y

namespace Y
open PySem L2
def spAdd (K : PySem.W.Frag) (C : Addr) : Sp := fun vs H Q _ => ∃ (a b : Addr) (ds es : List PyData), vs = [.ref a, .ref b] ∧ ScrAt K C H a ds ∧ ScrAt K C H b es ∧ Row (ds ++ es) ∧ ∀ c H', Same H H' → ScrAt K C H' c (ds ++ es) → Q (.ref c) H'
def spWithout (K : PySem.W.Frag) (C : Addr) : Sp := fun vs H Q _ => ∃ (a : Addr) (ds : List PyData) (i : Nat), vs = [.ref a, .int i] ∧ ScrAt K C H a ds ∧ Row ds ∧ i < ds.length ∧ ∀ c H', Same H H' → ScrAt K C H' c (ds.take i ++ ds.drop (i + 1)) → Q (.ref c) H'
section
variable {P : Program} {w : World} {K : PySem.W.Frag} {mg : Str → Option Value} {base : Heap}
/-- a new script -/
theorem scr_made {C x dx : Addr} {H H' : Hp} {v : V} {ds : List PyData} (nx : H x = none) (ndx : H dx = none) (hv : Dp K H v (.tuple ds)) (h : H' x = some (.ins C dx (kf v)))
    (k : ∀ b o, (upd (upd H dx (.own x)) x (.ins C dx [])) b = some o → b ≠ x → H' b = some o) : Same H H' ∧ ScrAt K C H' x ds := by
  have s := Same.made nx ndx k
  exact ⟨s, dx, v, h, s.dp hv⟩
theorem same_ins {C x dx : Addr} {H : Hp} {fs : List (Str × V)} (nx : H x = none) (ndx : H dx = none) : Same H (upd (upd H dx (.own x)) x (.ins C dx fs)) := fun b o e => by
  rw [upd_ne (ne_of_none e nx), upd_ne (ne_of_none e ndx)]; exact e
end
/-! ### the text of a script -/
def strD : PyData → Str
  | .str s => s
  | _ => ""
def wordsD : PyData → List Str
  | .tuple ds => ds.map strD
  | _ => []
def stepText (d : PyData) : Str := Txt.join " " (wordsD d)
def rowText (ds : List PyData) : Str := if ds = [] then "nothing" else Txt.join ", " (ds.map stepText)
theorem step_words : ∀ d ∈ STEPSD, d = .tuple ((wordsD d).map .str) ∧ ((wordsD d).map (·.length)).sum + (wordsD d).length * 1 ≤ 30 ∧ (stepText d).length ≤ 30 := by
  intro d hd
  simp only [STEPSD, List.mem_cons, List.not_mem_nil, or_false] at hd
  rcases hd with rfl | rfl | rfl | rfl | rfl | rfl | rfl | rfl | rfl | rfl | rfl | rfl <;> (refine ⟨rfl, ?_, ?_⟩ <;> decide +kernel)
theorem dp_strs {K : PySem.W.Frag} {H : Hp} : ∀ {xs : List V} {ys : List Str}, DpAll K H xs (ys.map .str) → xs = ys.map V.str
  | _, [], .nil => rfl
  | _, y :: ys, .cons h t => by rw [h.str_inv, dp_strs t]; rfl
theorem sum_le {n : Nat} : ∀ {ys : List Str}, (∀ y ∈ ys, y.length ≤ n) → (ys.map (·.length)).sum ≤ n * ys.length
  | [], _ => by simp
  | y :: ys, h => by
    have h1 := h y (by simp)
    have h2 := sum_le (ys := ys) fun x hx => h x (List.mem_cons_of_mem y hx)
    rw [List.map_cons, List.sum_cons, List.length_cons, Nat.mul_add]
    omega
/-- " ".join(step) -/
theorem step_join {K : PySem.W.Frag} {H : Hp} {Q : VK} {v : V} {d : PyData} (hd : d ∈ STEPSD) (hv : Dp K H v d) (q : Q (.str (stepText d)) H) : rJoin K (.str " ") [v] H Q := by
  obtain ⟨e, hl, _⟩ := step_words d hd
  rw [e] at hv
  obtain ⟨a, xs, rfl, ha, hxs⟩ := hv.tup_inv
  rw [dp_strs hxs] at ha
  exact ⟨_, a, wordsD d, rfl, rfl, .inr ha, Nat.le_trans hl (by decide), q⟩
end Y

/-! # law k20: the walk -/
namespace Y
open PySem L2 M
/-- old deeds among so many lines -/
def okN (many : Int) : Deed → Prop
  | .add _ _ => True
  | .label n _ => 1 ≤ n ∧ n ≤ many
  | .moves n _ => 1 ≤ n ∧ n ≤ many
  | .tie n m => (1 ≤ n ∧ n ≤ many) ∧ ∀ k, m = some k → 1 ≤ k ∧ k ≤ many
  | .fin n => 1 ≤ n ∧ n ≤ many
  | _ => False
def spOldAct (K : PySem.W.Frag) : Sp := fun vs H Q _ => ∃ (p : Addr) (many B : Int), vs = [.ref p, .int many] ∧ WellAt H p B ∧ B < 2 ^ 45 ∧ 0 ≤ many ∧ many ≤ 1000 ∧
  ∀ (v : V) (e : Deed) (H' : Hp), But p H H' → WellAt H' p (B + 40) → Dp K H' v (dD e) → okDeed e = true → okN many e → Q v H'
/-- the adds -/
def isAdd : Deed → Bool
  | .add _ _ => true
  | _ => false
/-- what a deed does to the old line with index k -/
def upd1 (k : Nat) (o : OL) (e : Deed) : OL := match e with
  | .label n l => if n = (k : Int) + 1 then { o with label := l } else o
  | .moves n a => if n = (k : Int) + 1 then { o with moves := a } else o
  | .tie n m => if n = (k : Int) + 1 then { o with tie := m } else o
  | .fin n => if n = (k : Int) + 1 then { o with standing := false } else o
  | _ => o
def mk1 : Deed → OL
  | .add l a => ⟨l, a, 0, none, true⟩
  | _ => ⟨0, 0, 0, none, true⟩
def lineM (es : List Deed) (k : Nat) : Option OL := ((es.filter isAdd)[k]?).map fun ad => es.foldl (upd1 k) (mk1 ad)
/-- the dict that _law_line keeps -/
def kvsOf (o : OL) : List (Key × V) := [(.inr "label", .int o.label), (.inr "moves", .int o.moves), (.inr "tie", tv o.tie), (.inr "end", .bl o.standing)]
theorem kvs0 (l a : Int) : mergeK [] [(.inr "label", .int l), (.inr "moves", .int 0), (.inr "tie", .non), (.inr "end", .bl true)] = kvsOf (mk1 (.add l a)) := rfl
theorem upd1_start (k : Nat) : ∀ (es : List Deed) (o : OL), (es.foldl (upd1 k) o).start = o.start
  | [], _ => rfl
  | e :: es, o => by
    rw [List.foldl_cons, upd1_start k es]
    cases e <;> simp only [upd1] <;> (try split) <;> rfl
theorem addP {K : PySem.W.Frag} {H : Hp} {xs : List V} {es : List Deed} {k : Nat} {ad : Deed} (hx : DpAll K H xs (es.map dD)) (h : (es.filter isAdd)[k]? = some ad) :
    ∃ v, (((xs.zip es).filter fun z => isAdd z.2).map Prod.fst)[k]? = some v ∧ Dp K H v (dD ad) := by
  have hl := hx.length
  rw [List.length_map] at hl
  have e1 : ((xs.zip es).filter fun z => isAdd z.2).map Prod.snd = es.filter isAdd := by
    have : es = (xs.zip es).map Prod.snd := by rw [List.map_snd_zip (by omega)]
    conv => rhs; rw [this]
    rw [List.filter_map]; rfl
  rw [← e1, List.getElem?_map] at h
  obtain ⟨z, hz, rfl⟩ := Option.map_eq_some_iff.mp h
  refine ⟨z.1, by rw [List.getElem?_map, hz]; rfl, ?_⟩
  have hm := (List.mem_filter.mp (List.mem_of_getElem? hz)).1
  obtain ⟨i, hi⟩ := List.mem_iff_getElem?.mp hm
  rw [List.getElem?_zip_eq_some] at hi
  obtain ⟨d, h1, h2⟩ := hx.get' hi.1
  rw [List.getElem?_map, hi.2] at h1
  cases h1
  exact h2
def spLine (K : PySem.W.Frag) : Sp := fun vs H Q _ => ∃ (p : Addr) (es : List Deed) (k : Nat) (o : OL), vs = [.ref p, .int ((k : Int) + 1)] ∧ DeedsAt K H p es ∧ es.length ≤ 1000 ∧ (∀ e ∈ es, isOld e = true) ∧ lineM es k = some o ∧
  ∀ v H', Same H H' → Dp K H' v (oRow ((k : Int) + 1) o) → Q v H'
def spLaw (K : PySem.W.Frag) : Sp := fun vs H Q _ => ∃ (a : Addr) (ns : List Int), vs = [.ref a] ∧ SqL K H a (ns.map V.int) ∧ ns.length ≤ 63 ∧ ∀ H', Q (.bl true) H'
theorem okD_add {l a : Int} (h1 : isLabelD (.int l) = true) (h2 : isAmountD (.int a) = true) : okDeed (.add l a) = true := by
  show isRestD "add" [.int l, .int a] = true
  unfold isRestD
  rw [if_neg (by decide), if_neg (by decide), if_neg (by simp), if_pos rfl]
  show (isLabelD (.int l) && isAmountD (.int a)) = true
  rw [h1, h2]; rfl
theorem isN {n : Int} (h1 : 1 ≤ n) (h2 : n ≤ 1000000000) : isNumberD (.int n) = true := decide_eq_true ⟨h1, h2⟩
theorem okD_label {n l : Int} (h0 : isNumberD (.int n) = true) (h1 : isLabelD (.int l) = true) : okDeed (.label n l) = true := by
  show isRestD "label" [.int n, .int l] = true
  unfold isRestD
  rw [if_neg (by decide), if_neg (by decide), if_neg (by simp), if_neg (by decide), if_neg (by show ¬ isNumberD (.int n) = false; rw [h0]; decide), if_pos (by decide)]
  exact h1
theorem okD_moves {n l : Int} (h0 : isNumberD (.int n) = true) (h1 : isAmountD (.int l) = true) : okDeed (.moves n l) = true := by
  show isRestD "moves" [.int n, .int l] = true
  unfold isRestD
  rw [if_neg (by decide), if_neg (by decide), if_neg (by simp), if_neg (by decide), if_neg (by show ¬ isNumberD (.int n) = false; rw [h0]; decide), if_neg (by decide), if_pos (by decide)]
  exact h1
theorem okD_tie {n : Int} {m : Option Int} (h0 : isNumberD (.int n) = true) (h1 : ∀ k, m = some k → isNumberD (.int k) = true) : okDeed (.tie n m) = true := by
  show isRestD "tie" [.int n, tD m] = true
  unfold isRestD
  rw [if_neg (by decide), if_neg (by decide), if_neg (by simp), if_neg (by decide), if_neg (by show ¬ isNumberD (.int n) = false; rw [h0]; decide), if_neg (by decide), if_neg (by decide), if_pos (by decide)]
  show (isNoneD (tD m) || isNumberD (tD m)) = true
  cases m with
  | none => rfl
  | some k => rw [show tD (some k) = .int k from rfl, h1 k rfl, Bool.or_true]
theorem okD_fin {n : Int} (h0 : isNumberD (.int n) = true) : okDeed (.fin n) = true := by
  show isRestD "end" [.int n] = true
  unfold isRestD
  rw [if_neg (by decide), if_pos (by decide), if_pos rfl]
  show (decide (([PyData.int n] : List PyData).length = 1) && isNumberD (.int n)) = true
  rw [h0]; rfl
/-! ### old deeds, in plain data -/
theorem okM_of {L : Led} {e : Deed} (h : okN (L.elder.length : Int) e) : okM L e := by
  cases e <;> first | exact h | exact trivial | exact h.elim
theorem old_of {many : Int} {e : Deed} (h : okN many e) : isOld e = true := by
  cases e <;> first | rfl | exact h.elim
theorem modify_some {α : Type} {l : List α} {i k : Nat} {f : α → α} : (l.modify i f)[k]? = if i = k then (l[k]?).map f else l[k]? := by
  rw [List.getElem?_modify]
  by_cases e : i = k
  · simp [e]
  · simp [e]
theorem play1_old {st : List (List Str)} {L : Led} {e : Deed} (h : isOld e = true) : (playM st L e).later = L.later ∧ (playM st L e).elder.length = L.elder.length + (if isAdd e = true then 1 else 0) := by
  cases e <;> first | exact absurd h Bool.false_ne_true | (simp [playM, addM, setOld, isAdd])
theorem play1_get {st : List (List Str)} {L : Led} {e : Deed} (h : isOld e = true) (ok : okM L e) (k : Nat) (hk : k < L.elder.length) : (playM st L e).elder[k]? = (L.elder[k]?).map fun o => upd1 k o e := by
  have aux : ∀ (n : Int) (f : OL → OL), inO L n → (setOld L n f).elder[k]? = (L.elder[k]?).map fun o => if n = (k : Int) + 1 then f o else o := by
    intro n f ⟨h1, h2⟩
    unfold setOld
    rw [modify_some]
    by_cases c : n = (k : Int) + 1
    · rw [if_pos (by omega)]; simp [c]
    · rw [if_neg (by omega)]; simp [c]
  cases e with
  | add l a =>
    show (L.elder ++ [_])[k]? = _
    rw [List.getElem?_append_left hk]; simp [upd1]
  | label n l => exact aux n _ ok
  | moves n l => exact aux n _ ok
  | tie n l => exact aux n _ ok.1
  | fin n => exact aux n _ ok
  | _ => exact absurd h Bool.false_ne_true
theorem upd1_far {L : Led} {e : Deed} (h : isOld e = true) (ok : okM L e) (k : Nat) (hk : L.elder.length ≤ k) (o : OL) : upd1 k o e = o := by
  cases e with
  | add l a => rfl
  | label n l => exact if_neg (by have := ok.2; omega)
  | moves n l => exact if_neg (by have := ok.2; omega)
  | tie n l => exact if_neg (by have := ok.1.2; omega)
  | fin n => exact if_neg (by have := ok.2; omega)
  | _ => exact absurd h Bool.false_ne_true
theorem playOld {st : List (List Str)} : ∀ {es : List Deed} {L : Led}, (∀ e ∈ es, isOld e = true) → OkAll st L es →
    (playAll st L es).later = L.later ∧ (playAll st L es).elder.length = L.elder.length + (es.filter isAdd).length ∧
    ∀ k, (playAll st L es).elder[k]? = if k < L.elder.length then (L.elder[k]?).map (fun o => es.foldl (upd1 k) o) else ((es.filter isAdd)[k - L.elder.length]?).map fun ad => es.foldl (upd1 k) (mk1 ad)
  | [], L, _, _ => by
    refine ⟨rfl, rfl, fun k => ?_⟩
    by_cases h : k < L.elder.length
    · rw [if_pos h]; simp [playAll]
    · rw [if_neg h]; simp [playAll, List.getElem?_eq_none (Nat.le_of_not_lt h)]
  | e :: es, L, ho, ok => by
    have he := ho e (by simp)
    obtain ⟨h1, h2⟩ := play1_old (st := st) (L := L) he
    obtain ⟨i1, i2, i3⟩ := playOld (es := es) (L := playM st L e) (fun x hx => ho x (List.mem_cons_of_mem e hx)) ok.2
    refine ⟨i1.trans h1, ?_, fun k => ?_⟩
    · show (playAll st (playM st L e) es).elder.length = _
      rw [i2, h2, List.filter_cons]
      split <;> simp <;> omega
    · show (playAll st (playM st L e) es).elder[k]? = _
      rw [i3 k]
      by_cases hk : k < L.elder.length
      · rw [if_pos hk, if_pos (by omega), play1_get he ok.1 k hk]
        cases L.elder[k]? <;> rfl
      · rw [if_neg hk]
        by_cases ha : isAdd e = true
        · rw [if_pos ha] at h2
          rw [List.filter_cons_of_pos ha]
          by_cases hk2 : k = L.elder.length
          · subst hk2
            rw [if_pos (by omega)]
            obtain ⟨l, a, rfl⟩ : ∃ l a, e = .add l a := by
              cases e <;> first | exact ⟨_, _, rfl⟩ | exact absurd ha Bool.false_ne_true
            have : (playM st L (.add l a)).elder[L.elder.length]? = some (mk1 (.add l a)) := by
              show (L.elder ++ [_])[L.elder.length]? = _
              rw [List.getElem?_append_right (Nat.le_refl _)]; simp [mk1]
            rw [this]; simp [upd1]
          · rw [if_neg (by omega), h2]
            have e1 : k - L.elder.length = (k - (L.elder.length + 1)) + 1 := by omega
            rw [e1, List.getElem?_cons_succ]
            congr 1
            funext ad
            rw [List.foldl_cons, upd1_far he ok.1 k (by omega)]
        · rw [if_neg ha] at h2
          rw [List.filter_cons_of_neg ha, if_neg (by omega), h2]
          simp only [Nat.add_zero]
          congr 1
          funext ad
          rw [List.foldl_cons, upd1_far he ok.1 k (by omega)]
theorem faultsOld {st : List (List Str)} : ∀ {es : List Deed} {k : Nat} {L : Led}, (∀ e ∈ es, isOld e = true) → faultsGo st k L es = []
  | [], _, _, _ => rfl
  | e :: es, k, L, h => by
    have he := h e (by simp)
    have hr : isRun e = false := by cases e <;> first | rfl | exact absurd he Bool.false_ne_true
    unfold faultsGo
    rw [hr, faultsOld fun x hx => h x (List.mem_cons_of_mem e hx)]; rfl
theorem OkAll.snoc {st : List (List Str)} : ∀ {es : List Deed} {L : Led} {e : Deed}, OkAll st L es → okM (playAll st L es) e → OkAll st L (es ++ [e])
  | [], _, _, _, h => ⟨h, trivial⟩
  | x :: es, L, e, h, h2 => ⟨h.1, OkAll.snoc (es := es) h.2 h2⟩
theorem playAll_snoc2 {st : List (List Str)} {es : List Deed} {L : Led} {e : Deed} : playAll st L (es ++ [e]) = playM st (playAll st L es) e := by
  simp [playAll, List.foldl_append]
/-- what is due -/
def dueRows (es : List Deed) : List PyData := (List.range (es.filter isAdd).length).map fun (k : Nat) => oRow ((k : Int) + 1) ((lineM es k).getD ⟨0, 0, 0, none, true⟩)
theorem due_is {st : List (List Str)} {es : List Deed} (h : ∀ e ∈ es, isOld e = true) (ok : OkAll st Led.init es) : oRows (playAll st Led.init es) = dueRows es ∧ nRows (playAll st Led.init es) = [] := by
  obtain ⟨h1, h2, h3⟩ := playOld h ok
  have z : Led.init.elder.length = 0 := rfl
  constructor
  · refine List.ext_getElem? fun k => ?_
    rw [oRows, dueRows, List.getElem?_mapIdx, List.getElem?_map, h3 k, if_neg (by rw [z]; omega), z, Nat.sub_zero]
    by_cases hk : k < (es.filter isAdd).length
    · rw [List.getElem?_range hk, List.getElem?_eq_getElem hk]
      simp [lineM, List.getElem?_eq_getElem hk]
    · rw [List.getElem?_eq_none (Nat.le_of_not_lt hk), List.getElem?_eq_none (by rw [List.length_range]; omega)]; rfl
  · unfold nRows; rw [h1]; rfl
theorem eqvAll_refl : ∀ {ds : List PyData}, (∀ d ∈ ds, PyData.eqv d d = true) → PyData.eqvAll ds ds = true
  | [], _ => by simp only [PyData.eqvAll]
  | d :: ds, h => by
    simp only [PyData.eqvAll, Bool.and_eq_true]
    exact ⟨h d (by simp), eqvAll_refl fun x hx => h x (List.mem_cons_of_mem d hx)⟩
theorem eqv_tD (m : Option Int) : PyData.eqv (tD m) (tD m) = true := by cases m <;> simp [tD, PyData.eqv]
theorem eqv_dD (e : Deed) : PyData.eqv (dD e) (dD e) = true := by
  cases e <;> simp [dD, PyData.eqv, PyData.eqvAll, eqv_tD]
theorem deeds_shaped (es : List Deed) : SeqAt.shaped (.list (es.map dD)) = true := by
  have hd : ∀ d ∈ es.map dD, d.depth ≤ 1 := fun d hd => by
    obtain ⟨e, _, rfl⟩ := List.mem_map.mp hd
    have ht : ∀ m, PyData.depth (tD m) = 0 := fun m => by cases m <;> rfl
    cases e <;> simp [dD, PyData.depth, PyData.depthAll, ht]
  have h1 := depth_all hd
  show (PyData.canLay0 (.list (es.map dD)) && decide (PyData.depth (.list (es.map dD)) ≤ 64)) = true
  rw [Bool.and_eq_true]
  refine ⟨by simp only [PyData.canLay0]; exact canLay_all fun d hd => by obtain ⟨e, _, rfl⟩ := List.mem_map.mp hd; exact deed_shaped e, decide_eq_true ?_⟩
  simp only [PyData.depth]; omega
theorem okL_oRow (n : Int) (o : OL) (k : Nat) : okL (k + 2) (oRow n o) = true := by
  have ht : ∀ m, okL (k + 1) (tD m) = true := fun m => by cases m <;> rfl
  simp [oRow, okL, ht]
theorem okL_due {ds : List PyData} (h : ∀ d ∈ ds, okL 2 d = true) (hl : ds.length ≤ 10000) : okL 4 (.tuple [.list ds, .list []]) = true := by
  simp only [okL, List.all_cons, List.all_nil, Bool.and_true, Bool.and_eq_true, decide_eq_true_eq, List.all_eq_true, List.length_cons, List.length_nil]
  exact ⟨by omega, ⟨hl, h⟩, by omega⟩
section
variable {P : Program} {w : World} {K : PySem.W.Frag} {mg : Str → Option Value} {base : Heap}
theorem ok_old_act (T : Tx K mg) : FnOk P w K mg base CX0 3 T.old_act.a T.old_act.fd ["well", "many"] (spOldAct K) := by
  have G_draw := ok_draw (P := P) (w := w) (base := base) T
  have G_label := ok_label (P := P) (w := w) (base := base) T
  have G_amount := ok_amount (P := P) (w := w) (base := base) T
  refine T.old_act.F.ok sc_old_act (fun vs H Q E h => by obtain ⟨p, many, B, rfl, _⟩ := h; rfl) (fun cdv A outer s H vs Q E hr h => ?_)
  obtain ⟨p, many, B, rfl, hw, hB, hm0, hm1, q⟩ := h
  refine ⟨_, (pss_cons (ps_set (i := 2) sc_old_act.nd rfl (Or.inl rfl) (pe_call G_draw (hr.mono (by first | decide | omega)) rfl T.draw.g T.draw.F.kp T.draw.b .nil pass0 (pa_cons (pv 0) (pa_cons pe_int pa_nil))))
  (pss_cons (ps_if (PW.pt (pw_or (pt_cmpR op_lt (pv 2) pe_int (nomark _)) (pw_or1 (pt_cmpR op_eq (pv 1) pe_int (nomark _)))))
  (pss_one (ps_ret (pe_tup (pa_cons pe_str (pa_cons (pe_call G_label (hr.mono (by first | decide | omega)) rfl T.label.g T.label.F.kp T.label.b .nil pass0 (pa_cons (pv 0) pa_nil)) (pa_cons (pe_call G_amount (hr.mono (by first | decide | omega)) rfl T.amount.g T.amount.F.kp T.amount.b .nil pass0 (pa_cons (pv 0) pa_nil)) pa_nil))))))
  pss_nil)
  (pss_cons (ps_par (i := 3) (j := 4) rfl sc_old_act.nd rfl rfl (by decide) rfl rfl (pa_cons (pe_op op_add pe_int (pe_call G_draw (hr.mono (by first | decide | omega)) rfl T.draw.g T.draw.F.kp T.draw.b .nil pass0 (pa_cons (pv 0) (pa_cons (pv 1) pa_nil)))) (pa_cons (pe_op op_add pe_int (pe_call G_draw (hr.mono (by first | decide | omega)) rfl T.draw.g T.draw.F.kp T.draw.b .nil pass0 (pa_cons (pv 0) (pa_cons (pv 1) pa_nil)))) pa_nil)) rfl)
  (pss_cons (ps_set (i := 5) sc_old_act.nd rfl (Or.inl rfl) (pe_lst (pa_cons (pe_tup (pa_cons pe_str (pa_cons (pv 3) (pa_cons (pe_call G_label (hr.mono (by first | decide | omega)) rfl T.label.g T.label.F.kp T.label.b .nil pass0 (pa_cons (pv 0) pa_nil)) pa_nil)))) (pa_cons (pe_tup (pa_cons pe_str (pa_cons (pv 3) (pa_cons (pe_call G_amount (hr.mono (by first | decide | omega)) rfl T.amount.g T.amount.F.kp T.amount.b .nil pass0 (pa_cons (pv 0) pa_nil)) pa_nil)))) (pa_cons (pe_tup (pa_cons pe_str (pa_cons (pv 3) pa_nil))) pa_nil)))))
  (pss_one (ps_ret (pe_ix (ix_listK K) (pe_op op_cat (pv 5) (pe_lst (pa_cons (pe_tup (pa_cons pe_str (pa_cons (pv 3) (pa_cons (pv 4) pa_nil)))) (pa_cons (pe_tup (pa_cons pe_str (pa_cons (pv 3) (pa_cons (pe_ix (ix_listK K) (pe_lst (pa_cons (pv 4) (pa_cons pe_non pa_nil))) (pe_call G_draw (hr.mono (by first | decide | omega)) rfl T.draw.g T.draw.F.kp T.draw.b .nil pass0 (pa_cons (pv 0) (pa_cons pe_int pa_nil))) (fun _ _ => rfl)) pa_nil)))) pa_nil)))) (pe_op op_sub (pv 2) pe_int) (fun _ _ => rfl)))))))), ?_⟩
  refine ⟨_, rfl, p, 7, B, rfl, hw, by omega, by decide, by decide, fun z H1 z0 z1 w1 b1 => ?_⟩
  by_cases hz : z < 2
  · refine ⟨_, rfl, _, _, rfl, rfl, _, rfl, iteT' (decide_eq_true hz) (iteT' rfl ?_)⟩
    refine ⟨_, rfl, p, B + 1, rfl, w1, by omega, fun l H2 hl w2 b2 => ⟨_, rfl, p, B + 1 + 5, rfl, w2, by omega, fun am H3 ham w3 b3 => ⟨line_of (by show 3 ≤ 100000; decide), fun t nt => ?_⟩⟩⟩
    exact q (.ref t) (.add l am) _ (((b1.trans b2).trans b3).trans (Same.new nt).but) ((w3.same (Same.new nt)).mono (by omega)) (.tupOf upd_same (.cons (.str _) (.cons (.int _) (.one (.int _))))) (okD_add hl ham) trivial
  refine ⟨_, rfl, _, _, rfl, rfl, _, rfl, iteF' (decide_eq_false hz) ⟨_, rfl, rfl, _, rfl, iteB (fun c => ?_) (fun c => ?_)⟩⟩
  · refine ⟨_, rfl, p, B + 1, rfl, w1, by omega, fun l H2 hl w2 b2 => ⟨_, rfl, p, B + 1 + 5, rfl, w2, by omega, fun am H3 ham w3 b3 => ⟨line_of (by show 3 ≤ 100000; decide), fun t nt => ?_⟩⟩⟩
    exact q (.ref t) (.add l am) _ (((b1.trans b2).trans b3).trans (Same.new nt).but) ((w3.same (Same.new nt)).mono (by omega)) (.tupOf upd_same (.cons (.str _) (.cons (.int _) (.one (.int _))))) (okD_add hl ham) trivial
  have hm : 0 < many := by
    have : many ≠ 0 := fun e => by rw [e] at c; exact absurd c (by decide)
    omega
  refine ⟨_, rfl, _, rfl, p, many, B + 1, rfl, w1, by omega, hm, by omega, fun n H2 n0 n1 w2 b2 => ⟨_, _, rfl, rfl, ?_⟩⟩
  refine ⟨_, rfl, _, rfl, p, many, B + 1 + 1, rfl, w2, by omega, hm, by omega, fun o H3 o0 o1 w3 b3 => ⟨_, _, rfl, rfl, _, _, rfl, ?_⟩⟩
  have b03 : But p H H3 := (b1.trans b2).trans b3
  refine ⟨_, rfl, _, rfl, p, B + 1 + 1 + 1, rfl, w3, by omega, fun l H4 hl w4 b4 => ⟨line_of (by show 3 ≤ 100000; decide), fun t1 nt1 => ?_⟩⟩
  have w5 := w4.same (Same.new (o := .tup [.str "label", .int (1 + n), .int l]) nt1)
  have b05 := (b03.trans b4).trans (Same.new (o := .tup [.str "label", .int (1 + n), .int l]) nt1).but
  have ht1 : upd H4 t1 (.tup [.str "label", .int (1 + n), .int l]) t1 = some (.tup [.str "label", .int (1 + n), .int l]) := upd_same
  generalize upd H4 t1 (.tup [.str "label", .int (1 + n), .int l]) = H5 at w5 b05 ht1
  refine ⟨_, rfl, _, rfl, p, B + 1 + 1 + 1 + 5, rfl, w5, by omega, fun am H6 ham w6 b6 => ⟨line_of (by show 3 ≤ 100000; decide), fun t2 nt2 => ?_⟩⟩
  have w7 := w6.same (Same.new (o := .tup [.str "moves", .int (1 + n), .int am]) nt2)
  have tt7 := b6.tups.trans (Same.new (o := .tup [.str "moves", .int (1 + n), .int am]) nt2).tups
  have b07 := (b05.trans b6).trans (Same.new (o := .tup [.str "moves", .int (1 + n), .int am]) nt2).but
  have ht2 : upd H6 t2 (.tup [.str "moves", .int (1 + n), .int am]) t2 = some (.tup [.str "moves", .int (1 + n), .int am]) := upd_same
  have ht1' := tt7.1 _ _ ht1
  generalize upd H6 t2 (.tup [.str "moves", .int (1 + n), .int am]) = H7 at w7 b07 ht2 ht1'
  refine ⟨_, rfl, line_of (by show 2 ≤ 100000; decide), fun t3 nt3 => ⟨line_of (by show 3 ≤ 100000; decide), fun sl nsl => ?_⟩⟩
  have s79 : Same H7 (upd (upd H7 t3 (.tup [.str "end", .int (1 + n)])) sl (.lst [.ref t1, .ref t2, .ref t3])) := (Same.new nt3).trans (Same.new nsl)
  have ht3 : upd (upd H7 t3 (.tup [.str "end", .int (1 + n)])) sl (.lst [.ref t1, .ref t2, .ref t3]) t3 = some (.tup [.str "end", .int (1 + n)]) := Same.new nsl _ _ upd_same
  have hsl : upd (upd H7 t3 (.tup [.str "end", .int (1 + n)])) sl (.lst [.ref t1, .ref t2, .ref t3]) sl = some (.lst [.ref t1, .ref t2, .ref t3]) := upd_same
  generalize upd (upd H7 t3 (.tup [.str "end", .int (1 + n)])) sl (.lst [.ref t1, .ref t2, .ref t3]) = H9 at s79 ht3 hsl
  have w9 := w7.same s79
  have b09 := b07.trans s79.but
  have ht1 := s79 _ _ ht1'
  have ht2 := s79 _ _ ht2
  have hsp : sl ≠ p := by
    obtain ⟨_, _, _, e, _⟩ := w9
    intro z; rw [z, e] at hsl; cases hsl
  refine ⟨_, rfl, _, rfl, _, rfl, line_of (by show 3 ≤ 100000; decide), fun t4 nt4 => ⟨_, rfl, _, rfl, line_of (by show 2 ≤ 100000; decide), fun il nil_ => ?_⟩⟩
  have s10 : Same H9 (upd (upd H9 t4 (.tup [.str "tie", .int (1 + n), .int (1 + o)])) il (.lst [.int (1 + o), .non])) := (Same.new nt4).trans (Same.new nil_)
  have ht4 : upd (upd H9 t4 (.tup [.str "tie", .int (1 + n), .int (1 + o)])) il (.lst [.int (1 + o), .non]) t4 = some (.tup [.str "tie", .int (1 + n), .int (1 + o)]) := Same.new nil_ _ _ upd_same
  have hil : upd (upd H9 t4 (.tup [.str "tie", .int (1 + n), .int (1 + o)])) il (.lst [.int (1 + o), .non]) il = some (.lst [.int (1 + o), .non]) := upd_same
  generalize upd (upd H9 t4 (.tup [.str "tie", .int (1 + n), .int (1 + o)])) il (.lst [.int (1 + o), .non]) = H10 at s10 ht4 hil
  have hip : il ≠ p := by
    obtain ⟨_, _, _, e, _⟩ := w9.same s10
    intro z; rw [z, e] at hil; cases hil
  refine ⟨_, rfl, p, 2, B + 13, rfl, (w9.same s10).mono (by omega), by omega, by decide, by decide, fun r H11 r0 r1 w11 b11 => ?_⟩
  have hil := b11.keep _ _ hil hip
  have hm2 : ∃ m : Option Int, atI [V.int (1 + o), V.non] r = some (tv m) ∧ ∀ k, m = some k → 1 ≤ k ∧ k ≤ many := by
    have hr : r = 0 ∨ r = 1 := by omega
    rcases hr with rfl | rfl
    · exact ⟨some (1 + o), rfl, fun k e => by cases e; omega⟩
    · exact ⟨none, rfl, fun k e => by cases e⟩
  obtain ⟨m, hm3, hm4⟩ := hm2
  refine ⟨il, _, r, tv m, rfl, rfl, SqL.of hil, hm3, line_of (by show 3 ≤ 100000; decide), fun t5 nt5 => ⟨line_of (by show 2 ≤ 100000; decide), fun l2 nl2 => ?_⟩⟩
  have s12 : Same H11 (upd (upd H11 t5 (.tup [.str "tie", .int (1 + n), tv m])) l2 (.lst [.ref t4, .ref t5])) := (Same.new nt5).trans (Same.new nl2)
  have ht5 : upd (upd H11 t5 (.tup [.str "tie", .int (1 + n), tv m])) l2 (.lst [.ref t4, .ref t5]) t5 = some (.tup [.str "tie", .int (1 + n), tv m]) := Same.new nl2 _ _ upd_same
  have hl2 : upd (upd H11 t5 (.tup [.str "tie", .int (1 + n), tv m])) l2 (.lst [.ref t4, .ref t5]) l2 = some (.lst [.ref t4, .ref t5]) := upd_same
  generalize upd (upd H11 t5 (.tup [.str "tie", .int (1 + n), tv m])) l2 (.lst [.ref t4, .ref t5]) = H12 at s12 ht5 hl2
  have tt : Tups H9 H12 := (s10.tups.trans b11.tups).trans s12.tups
  have ht1 := tt.1 _ _ ht1
  have ht2 := tt.1 _ _ ht2
  have ht3 := tt.1 _ _ ht3
  have ht4 := (b11.tups.trans s12.tups).1 _ _ ht4
  have hsl := s12 _ _ (b11.keep _ _ (s10 _ _ hsl) hsp)
  refine ⟨sl, l2, _, _, rfl, rfl, hsl, hl2, line_of (by show 3 + 2 ≤ 100000; decide), fun c nc => ⟨_, rfl, _, _, rfl, rfl, ?_⟩⟩
  have sc : Same H12 (upd H12 c (.lst ([.ref t1, .ref t2, .ref t3] ++ [.ref t4, .ref t5]))) := Same.new nc
  have w13 := (w11.same s12).same sc
  have b13 := (((b09.trans s10.but).trans b11).trans s12.but).trans sc.but
  have hnn : 1 ≤ 1 + n ∧ 1 + n ≤ many := ⟨by omega, by omega⟩
  have hN : isNumberD (.int (1 + n)) = true := isN hnn.1 (by omega)
  have hzz : z = 2 ∨ z = 3 ∨ z = 4 ∨ z = 5 ∨ z = 6 := by omega
  rcases hzz with rfl | rfl | rfl | rfl | rfl
  · exact ⟨c, _, _, .ref t1, rfl, rfl, SqL.of upd_same, rfl, q (.ref t1) (.label (1 + n) l) _ b13 (w13.mono (by omega)) (.tupOf (sc _ _ ht1) (.cons (.str _) (.cons (.int _) (.one (.int _))))) (okD_label hN hl) hnn⟩
  · exact ⟨c, _, _, .ref t2, rfl, rfl, SqL.of upd_same, rfl, q (.ref t2) (.moves (1 + n) am) _ b13 (w13.mono (by omega)) (.tupOf (sc _ _ ht2) (.cons (.str _) (.cons (.int _) (.one (.int _))))) (okD_moves hN ham) hnn⟩
  · exact ⟨c, _, _, .ref t3, rfl, rfl, SqL.of upd_same, rfl, q (.ref t3) (.fin (1 + n)) _ b13 (w13.mono (by omega)) (.tupOf (sc _ _ ht3) (.cons (.str _) (.one (.int _)))) (okD_fin hN) hnn⟩
  · exact ⟨c, _, _, .ref t4, rfl, rfl, SqL.of upd_same, rfl, q (.ref t4) (.tie (1 + n) (some (1 + o))) _ b13 (w13.mono (by omega)) (.tupOf (sc _ _ ht4) (.cons (.str _) (.cons (.int _) (.one (.int _))))) (okD_tie hN fun k e => by cases e; exact isN (by omega) (by omega)) ⟨hnn, fun k e => by cases e; omega⟩⟩
  · exact ⟨c, _, _, .ref t5, rfl, rfl, SqL.of upd_same, rfl, q (.ref t5) (.tie (1 + n) m) _ b13 (w13.mono (by omega)) (.tupOf (sc _ _ ht5) (.cons (.str _) (.cons (.int _) (.one (dp_tv m))))) (okD_tie hN fun k e => by have := hm4 k e; exact isN (by omega) (by omega)) ⟨hnn, hm4⟩⟩
theorem ok_line (T : Tx K mg) : FnOk P w K mg base CX0 1 T.line.a T.line.fd ["acts", "number"] (spLine K) := by
  refine T.line.F.ok sc_line (fun vs H Q E h => by obtain ⟨p, es, k, o, rfl, _⟩ := h; rfl) (fun cdv A outer s H vs Q E hr h => ?_)
  obtain ⟨p, es, k, o, rfl, ⟨xs, hp, hxs⟩, hlen, hold, hl, q⟩ := h
  refine ⟨_, (pss_cons (ps_setLc (i := 2) (own := [("act", 4)]) (g := (gName 4)) (tt := _) rfl sc_line.nd rfl rfl (sw_true rfl rfl rfl (by decide +kernel)) (pi_listK K (pv 0)) (blkOk_by (N := ["acts", "number", "adds", "last", "act"]) (sc := defScope s_line) (by decide +kernel)) (fun _ _ _ _ _ => pg_name (i := 4) sc_line.nd rfl (Or.inl rfl)) (fun _ _ _ _ _ => pts_one (pt_cmpR op_eq (pe_ix (ix_tupK K) (pv 4) pe_int (fun _ _ => rfl)) pe_str (nomark _))) (fun _ _ _ _ _ => (pv 4)))
  (pss_cons (ps_set (i := 3) sc_line.nd rfl (Or.inl rfl) (pe_disp (pps_cons pe_str (pe_ix (ix_seqK K) (pe_ix (ix_listK K) (pv 2) (pe_op op_sub (pv 1) pe_int) (fun _ _ => rfl)) pe_int (fun _ _ => rfl)) (pps_cons pe_str pe_int (pps_cons pe_str pe_non (pps_cons pe_str pe_bl pps_nil)))) (by rfl) (by rfl) (fun z => by cases z) (by decide)))
  (pss_cons (ps_for PassesOwn.never rfl (pi_listK K (pv 0)) (pg_name (i := 4) sc_line.nd rfl (Or.inl rfl))
  (pss_one (ps_if (PW.pt (pw_and (pt_cmpR op_ne (pe_ix (ix_tupK K) (pv 4) pe_int (fun _ _ => rfl)) pe_str (nomark _)) (pw_and1 (pt_cmpR op_eq (pe_ix (ix_tupK K) (pv 4) pe_int (fun _ _ => rfl)) (pv 1) (nomark _)))))
  (pss_one (ps_dput (hu_of hr) (pv 3) (pe_ix (ix_tupK K) (pv 4) pe_int (fun _ _ => rfl)) (pe_ifExp (pt_cmpR op_eq (pe_callB (call_lenK K) (by rfl) T.b_len (by decide +kernel) (pa_cons (pv 4) pa_nil)) pe_int (nomark _)) (pe_ix (ix_tupK K) (pv 4) pe_int (fun _ _ => rfl)) pe_bl) rfl))
  pss_nil)))
  (pss_one (ps_ret (pe_tup (pa_cons (pv 1) (pa_cons (pe_dget (hu_of hr) (pv 3) pe_str (fun _ _ => rfl)) (pa_cons (pe_ix (ix_seqK K) (pe_ix (ix_listK K) (pv 2) (pe_op op_sub (pv 1) pe_int) (fun _ _ => rfl)) pe_int (fun _ _ => rfl)) (pa_cons (pe_dget (hu_of hr) (pv 3) pe_str (fun _ _ => rfl)) (pa_cons (pe_dget (hu_of hr) (pv 3) pe_str (fun _ _ => rfl)) (pa_cons (pe_dget (hu_of hr) (pv 3) pe_str (fun _ _ => rfl)) pa_nil)))))))))))), ?_⟩
  have hlx := hxs.length
  rw [List.length_map] at hlx
  have hat : ∀ {i : Nat} {x : V} {e : Deed}, xs[i]? = some x → es[i]? = some e → ∃ ai, x = .ref ai ∧ SqT K H ai (dV e) := by
    intro i x e h1 h2
    obtain ⟨d, h3, h4⟩ := hxs.get' h1
    rw [List.getElem?_map, h2] at h3
    cases h3
    exact dD_inv h4
  have el0 : ∀ e : Deed, isOld e = true → ∃ w : Str, (dV e)[0]? = some (.str w) ∧ isAdd e = decide (w = "add") := by
    intro e he
    cases e <;> first | exact ⟨_, rfl, rfl⟩ | exact absurd he Bool.false_ne_true
  dsimp only [tSeq_app, tAsg_app]
  refine lcFM (l := p) (xs.zip es) Prod.fst Prod.fst (fun z => isAdd z.2) (fun Q hq => ⟨_, rfl, hq⟩) (by rw [List.map_fst_zip (by omega)]; exact hp) (by rw [List.length_zip]; omega) (fun x => rfl) ?_ ?_ ?_
  · intro j z H' hz s R hR
    rw [List.getElem?_zip_eq_some] at hz
    obtain ⟨ai, e1, hq⟩ := hat hz.1 hz.2
    obtain ⟨w0, hw0, ha⟩ := el0 z.2 (hold _ (List.mem_of_getElem? hz.2))
    refine ⟨_, rfl, ai, _, 0, .str w0, e1, rfl, s.sqT hq, atI_nat (j := 0) hw0, rfl, _, rfl, ?_⟩
    have e : decide (V.str w0 = V.str "add") = isAdd z.2 := by rw [ha]; simp
    rw [e]; exact hR H' (Same.refl H')
  · intro j z H' hz hf s R hR
    exact ⟨_, rfl, hR H' (Same.refl H')⟩
  intro D H1 nD s1 hD
  unfold lineM at hl
  obtain ⟨ad, had, hl⟩ := Option.map_eq_some_iff.mp hl
  obtain ⟨l, am, rfl⟩ : ∃ l am, ad = .add l am := by
    have := (List.mem_filter.mp (List.mem_of_getElem? had)).2
    cases ad <;> first | exact ⟨_, _, rfl⟩ | (simp [isAdd] at this)
  obtain ⟨v, hv1, hv2⟩ := addP hxs had
  obtain ⟨va, rfl, hva⟩ := dD_inv hv2
  intro pd npd
  have s2 : Same H1 (upd H1 pd (.dK [])) := Same.new npd
  refine ⟨_, rfl, _, rfl, _, _, rfl, rfl, D, _, _, .ref va, rfl, rfl, SqL.of (s2 _ _ hD), at_of (j := k) (by omega) hv1, .inr (.inl ⟨va, _, 1, .int l, rfl, rfl, (s1.trans s2).sqT hva, rfl, ?_⟩)⟩
  refine ⟨upd_same, [(.inr "label", .int l), (.inr "moves", .int 0), (.inr "tie", .non), (.inr "end", .bl true)], rfl, of_decide_eq_true rfl, ?_⟩
  rw [kvs0 l am, upd_upd]
  dsimp only [gName_app]
  refine ⟨_, rfl, p, rfl, ⟨_, (hp.same s1).same (Same.new npd)⟩, for_list (K := K) (a := p) (xs := xs) (fun i σ H' => (∃ v4, σ = [some (.ref p), some (.int ((k : Int) + 1)), some (.ref D), some (.ref pd), v4]) ∧ Same H1 H' ∧ H' pd = some (.dK (kvsOf ((es.take i).foldl (upd1 k) (mk1 (.add l am))))))
    ⟨⟨_, rfl⟩, Same.new npd, upd_same⟩ (fun i σ H' _ h => (hp.same s1).same h.2.1) ?_ ?_⟩
  · rintro i x σ H' hi ⟨⟨v4, rfl⟩, s, hd⟩
    have hil : i < es.length := by rw [← hlx]; exact (List.getElem?_eq_some_iff.mp hi).1
    have he := List.getElem?_eq_getElem hil
    obtain ⟨ai, rfl, hq0⟩ := hat hi he
    have hq := (s1.trans s).sqT hq0
    have ho := hold _ (List.mem_of_getElem? he)
    have et : (es.take (i + 1)).foldl (upd1 k) (mk1 (.add l am)) = upd1 k ((es.take i).foldl (upd1 k) (mk1 (.add l am))) es[i] := by
      rw [List.take_add_one, he]
      show List.foldl _ _ (es.take i ++ [es[i]]) = _
      rw [List.foldl_append]; rfl
    rw [et]
    generalize (es.take i).foldl (upd1 k) (mk1 (.add l am)) = o1 at hd ⊢
    generalize es[i] = e at hq ho ⊢
    have pdH : H1 pd = none := npd
    cases e with
    | add l2 a2 =>
      refine ⟨_, rfl, ai, _, 0, .str "add", rfl, rfl, hq, rfl, rfl, _, rfl, iteF' rfl (iteF ?_)⟩
      exact ⟨⟨_, rfl⟩, s, hd⟩
    | label n2 l2 =>
      refine ⟨_, rfl, ai, _, 0, .str "label", rfl, rfl, hq, rfl, rfl, _, rfl, iteT' rfl ⟨_, rfl, ai, _, 1, .int n2, rfl, rfl, hq, rfl, _, rfl, rfl, _, rfl, iteB (fun c => ?_) (fun c => ?_)⟩⟩
      · have c : n2 = (k : Int) + 1 := by
          have := of_decide_eq_true c
          injection this
        refine ⟨_, rfl, _, 3, rfl, .inr ⟨_, hq, rfl⟩, rfl, _, rfl, iteT' rfl ⟨_, rfl, ai, _, 2, .int l2, rfl, rfl, hq, rfl, _, rfl, _, rfl, ai, _, 0, .str "label", rfl, rfl, hq, rfl, pd, _, rfl, .inl ⟨_, .inr "label", hd, rfl, line_lt (by show 4 < 100000; decide), rfl⟩, ⟨_, rfl⟩, s.mut pdH, ?_⟩⟩
        rw [upd_same, upd1, if_pos c]; rfl
      · have c : ¬ n2 = (k : Int) + 1 := fun z => by rw [z] at c; exact absurd c (by simp)
        refine ⟨⟨_, rfl⟩, s, ?_⟩
        rw [hd, upd1, if_neg c]
    | moves n2 l2 =>
      refine ⟨_, rfl, ai, _, 0, .str "moves", rfl, rfl, hq, rfl, rfl, _, rfl, iteT' rfl ⟨_, rfl, ai, _, 1, .int n2, rfl, rfl, hq, rfl, _, rfl, rfl, _, rfl, iteB (fun c => ?_) (fun c => ?_)⟩⟩
      · have c : n2 = (k : Int) + 1 := by
          have := of_decide_eq_true c
          injection this
        refine ⟨_, rfl, _, 3, rfl, .inr ⟨_, hq, rfl⟩, rfl, _, rfl, iteT' rfl ⟨_, rfl, ai, _, 2, .int l2, rfl, rfl, hq, rfl, _, rfl, _, rfl, ai, _, 0, .str "moves", rfl, rfl, hq, rfl, pd, _, rfl, .inl ⟨_, .inr "moves", hd, rfl, line_lt (by show 4 < 100000; decide), rfl⟩, ⟨_, rfl⟩, s.mut pdH, ?_⟩⟩
        rw [upd_same, upd1, if_pos c]; rfl
      · have c : ¬ n2 = (k : Int) + 1 := fun z => by rw [z] at c; exact absurd c (by simp)
        refine ⟨⟨_, rfl⟩, s, ?_⟩
        rw [hd, upd1, if_neg c]
    | tie n2 l2 =>
      refine ⟨_, rfl, ai, _, 0, .str "tie", rfl, rfl, hq, rfl, rfl, _, rfl, iteT' rfl ⟨_, rfl, ai, _, 1, .int n2, rfl, rfl, hq, rfl, _, rfl, rfl, _, rfl, iteB (fun c => ?_) (fun c => ?_)⟩⟩
      · have c : n2 = (k : Int) + 1 := by
          have := of_decide_eq_true c
          injection this
        refine ⟨_, rfl, _, 3, rfl, .inr ⟨_, hq, rfl⟩, rfl, _, rfl, iteT' rfl ⟨_, rfl, ai, _, 2, tv l2, rfl, rfl, hq, rfl, _, rfl, _, rfl, ai, _, 0, .str "tie", rfl, rfl, hq, rfl, pd, _, rfl, .inl ⟨_, .inr "tie", hd, rfl, line_lt (by show 4 < 100000; decide), rfl⟩, ⟨_, rfl⟩, s.mut pdH, ?_⟩⟩
        rw [upd_same, upd1, if_pos c]; rfl
      · have c : ¬ n2 = (k : Int) + 1 := fun z => by rw [z] at c; exact absurd c (by simp)
        refine ⟨⟨_, rfl⟩, s, ?_⟩
        rw [hd, upd1, if_neg c]
    | fin n2 =>
      refine ⟨_, rfl, ai, _, 0, .str "end", rfl, rfl, hq, rfl, rfl, _, rfl, iteT' rfl ⟨_, rfl, ai, _, 1, .int n2, rfl, rfl, hq, rfl, _, rfl, rfl, _, rfl, iteB (fun c => ?_) (fun c => ?_)⟩⟩
      · have c : n2 = (k : Int) + 1 := by
          have := of_decide_eq_true c
          injection this
        refine ⟨_, rfl, _, 2, rfl, .inr ⟨_, hq, rfl⟩, rfl, _, rfl, iteF' rfl ⟨_, rfl, _, rfl, ai, _, 0, .str "end", rfl, rfl, hq, rfl, pd, _, rfl, .inl ⟨_, .inr "end", hd, rfl, line_lt (by show 4 < 100000; decide), rfl⟩, ⟨_, rfl⟩, s.mut pdH, ?_⟩⟩
        rw [upd_same, upd1, if_pos c]; rfl
      · have c : ¬ n2 = (k : Int) + 1 := fun z => by rw [z] at c; exact absurd c (by simp)
        refine ⟨⟨_, rfl⟩, s, ?_⟩
        rw [hd, upd1, if_neg c]
    | _ => simp [isOld] at ho
  · rintro σ H' ⟨⟨v4, rfl⟩, s, hd⟩
    rw [hlx, List.take_length, hl] at hd
    have hst : o.start = am := by rw [← hl, upd1_start]; rfl
    refine ⟨_, rfl, _, rfl, pd, .int o.label, rfl, .inl ⟨_, .inr "label", .inl hd, rfl, rfl⟩, ?_⟩
    refine ⟨_, rfl, _, rfl, _, _, rfl, rfl, D, _, _, .ref va, rfl, rfl, SqL.of (s _ _ hD), at_of (j := k) (by omega) hv1, .inr (.inl ⟨va, _, 2, .int am, rfl, rfl, (s1.trans s).sqT hva, rfl, ?_⟩)⟩
    refine ⟨_, rfl, pd, .int o.moves, rfl, .inl ⟨_, .inr "moves", .inl hd, rfl, rfl⟩, _, rfl, pd, tv o.tie, rfl, .inl ⟨_, .inr "tie", .inl hd, rfl, rfl⟩, _, rfl, pd, .bl o.standing, rfl, .inl ⟨_, .inr "end", .inl hd, rfl, rfl⟩, line_of (by show 6 ≤ 100000; decide), fun t nt => ?_⟩
    refine q (.ref t) _ ((s1.trans s).trans (Same.new nt)) (.tupOf upd_same ?_)
    rw [hst]
    exact .cons (.int _) (.cons (.int _) (.cons (.int _) (.cons (.int _) (.cons (dp_tv _) (.one (.bl _))))))
theorem ok_law (T : Tx K mg) : FnOk P w K mg base CX0 14 T.law.a T.law.fd ["script"] (spLaw K) := by
  have G_well := ok_well (P := P) (w := w) (base := base) T
  have G_draw := ok_draw (P := P) (w := w) (base := base) T
  have G_steps := ok_steps (P := P) (w := w) (base := base) T
  have G_old_act := ok_old_act (P := P) (w := w) (base := base) T
  have G_line := ok_line (P := P) (w := w) (base := base) T
  have G_like := ok_like (P := P) (w := w) (base := base) T 4
  have G_Script_init := ok_Script_init (P := P) (w := w) (base := base) T
  have G_Script_steps := ok_Script_steps (P := P) (w := w) (base := base) T
  have G_dead1 : FnOk P w K mg base CX0 6 T.Ledgers_run.a T.Ledgers_run.fd ["self", "steps"] (fun _ _ _ _ => False) := fn_falseL fun _ _ _ _ h => h
  have G_dead2 : FnOk P w K mg base CX0 5 T.Ledgers_wrongs.a T.Ledgers_wrongs.fd ["self", "index"] (fun _ _ _ _ => False) := fn_falseL fun _ _ _ _ h => h
  have G_play := ok_play (P := P) (w := w) (base := base) T G_dead1 G_dead2
  have G_faults := ok_faults (P := P) (w := w) (base := base) T G_dead1 G_dead2
  refine T.law.F.ok sc_law (fun vs H Q E h => by obtain ⟨a, ns, rfl, _⟩ := h; rfl) (fun cdv A outer s H vs Q E hr h => ?_)
  obtain ⟨a, ns, rfl, hS, hlen, q⟩ := h
  refine ⟨_, (pss_cons (ps_set (i := 1) sc_law.nd rfl (Or.inl rfl) (pe_call G_well (hr.mono (by first | decide | omega)) rfl T.well.g T.well.F.kp T.well.b .nil pass0 (pa_cons (pv 0) (pa_cons pe_int pa_nil))))
  (pss_cons (ps_asg (pe_tup (pa_cons (pe_call G_steps (hr.mono (by first | decide | omega)) rfl T.steps.g T.steps.F.kp T.steps.b .nil pass0 (pa_cons (pv 1) (pa_cons pe_int pa_nil))) (pa_cons (pe_lst pa_nil) (pa_cons pe_int pa_nil)))) (pg_tupK K rfl (pgs_cons (pg_name (i := 2) sc_law.nd rfl (Or.inl rfl)) (pgs_cons (pg_name (i := 3) sc_law.nd rfl (Or.inr rfl)) (pgs_cons (pg_name (i := 4) sc_law.nd rfl (Or.inl rfl)) pgs_nil)))))
  (pss_cons (ps_for PassesOwn.never rfl (pi_range1 (by rfl) T.b_range (pa_cons (pe_callB (call_max2 rfl) (by rfl) T.b_max (by decide +kernel) (pa_cons (pe_callB (call_min2 rfl) (by rfl) T.b_min (by decide +kernel) (pa_cons pe_int (pa_cons (pe_op op_sub (pe_callB (call_lenK K) (by rfl) T.b_len (by decide +kernel) (pa_cons (pv 0) pa_nil)) pe_int) pa_nil))) (pa_cons (pe_call G_draw (hr.mono (by first | decide | omega)) rfl T.draw.g T.draw.F.kp T.draw.b .nil pass0 (pa_cons (pv 1) (pa_cons pe_int pa_nil))) pa_nil))) pa_nil)) (pg_name (i := 5) sc_law.nd rfl (Or.inl rfl))
  (pss_cons (ps_set (i := 6) sc_law.nd rfl (Or.inl rfl) (pv 1))
  (C8.pss_cut (ps_if (pt_cmpR op_lt (pe_op op_add pe_int (pv 5)) (pe_callB (call_lenK K) (by rfl) T.b_len (by decide +kernel) (pa_cons (pv 0) pa_nil)) (nomark _))
  (pss_one (ps_set (i := 6) sc_law.nd rfl (Or.inl rfl) (pe_call G_well (hr.mono (by first | decide | omega)) rfl T.well.g T.well.F.kp T.well.b .nil pass0 (pa_cons (pv 0) (pa_cons (pe_op op_add pe_int (pv 5)) pa_nil)))))
  pss_nil)
  (pss_cons (ps_expr (pe_bm PySem.F.plainAttrs_list PySem.F.slot_list_append PySem.F.type_list_append mt_append (pv 3) (pa_cons (pe_call G_old_act (hr.mono (by first | decide | omega)) rfl T.old_act.g T.old_act.F.kp T.old_act.b .nil pass0 (pa_cons (pv 6) (pa_cons (pv 4) pa_nil))) pa_nil)))
  (pss_one (ps_set (i := 4) sc_law.nd rfl (Or.inl rfl) (pe_op op_add (pv 4) (pe_callTy call_int1 (by rfl) T.b_int (by decide +kernel) (pa_cons (pe_cmpR op_eq (pe_ix (ix_tupK K) (pe_ix (ix_listK K) (pv 3) (pe_un un_neg pe_int) (fun _ _ => rfl)) pe_int (fun _ _ => rfl)) pe_str (nomark _)) pa_nil)))))))))
  (pss_cons (ps_set (i := 7) sc_law.nd rfl (Or.inl rfl) (pe_tup (pa_cons (pe_lc (own := [("number", 11)]) (g := (gName 11)) (tt := tYes) rfl sc_law.nd (pi_range2 (by rfl) T.b_range (pa_cons pe_int (pa_cons (pe_op op_add (pv 4) pe_int) pa_nil))) (blkOk_by (N := ["script", "well", "steps", "acts", "many", "turn", "source", "due", "work", "handed", "told", "number"]) (sc := defScope s_law) (by decide +kernel)) (fun _ _ _ _ _ => pg_name (i := 11) sc_law.nd rfl (Or.inl rfl)) (fun _ _ _ _ _ => pts_nil) (fun _ _ _ _ _ => (pe_call G_line (hr.mono (by first | decide | omega)) rfl T.line.g T.line.F.kp T.line.b .nil pass0 (pa_cons (pv 3) (pa_cons (pv 11) pa_nil))))) (pa_cons (pe_lst pa_nil) pa_nil))))
  (pss_cons (ps_par (i := 8) (j := 9) rfl sc_law.nd rfl rfl (by decide) rfl rfl (pa_cons (pe_make T.mk_Script G_Script_init (hr.mono (by first | decide | omega)) rfl T.g_Script T.Script_init.b .nil pass0 (pa_cons (pv 2) pa_nil)) (pa_cons (pe_callTy (call_lstK K) (by rfl) T.b_list (by decide +kernel) (pa_cons (pv 3) pa_nil)) pa_nil)) rfl)
  (pss_cons (ps_set (i := 10) sc_law.nd rfl (Or.inl rfl) (pe_call G_play (hr.mono (by first | decide | omega)) rfl T.play.g T.play.F.kp T.play.b .nil pass0 (pa_cons (pv 8) (pa_cons (pv 9) pa_nil))))
  (pss_cons (ps_if (PW.pt (pw_or (pt_not (pt_val (pe_call G_like (hr.mono (by first | decide | omega)) rfl T.like.g T.like.F.kp T.like.b .nil pass0 (pa_cons (pv 10) (pa_cons (pv 7) pa_nil))))) (pw_or (pt_cmpR (op_neDK K (hu65 hr)) (pv 9) (pv 3) (nomark _)) (pw_or1 (pt_not (pt_val (pe_call G_like (hr.mono (by first | decide | omega)) rfl T.like.g T.like.F.kp T.like.b .nil pass0 (pa_cons (pe_call G_faults (hr.mono (by first | decide | omega)) rfl T.faults.g T.faults.F.kp T.faults.b .nil pass0 (pa_cons (pv 8) (pa_cons (pe_callTy (call_lstK K) (by rfl) T.b_list (by decide +kernel) (pa_cons (pv 3) pa_nil)) pa_nil))) (pa_cons (pe_lst pa_nil) pa_nil)))))))))
  (pss_one (ps_ret pe_bl))
  pss_nil)
  (pss_cons (ps_expr (pe_bm PySem.F.plainAttrs_list PySem.F.slot_list_append PySem.F.type_list_append mt_append (pe_ix (ix_tupK K) (pv 10) pe_int (fun _ _ => rfl)) (pa_cons (pe_tup (pa_cons pe_int (pa_cons pe_int (pa_cons pe_int (pa_cons pe_int (pa_cons pe_non (pa_cons pe_bl pa_nil))))))) pa_nil)))
  (pss_cons (ps_expr (pe_bm PySem.F.plainAttrs_list PySem.F.slot_list_append PySem.F.type_list_append mt_append (pe_ix (ix_tupK K) (pv 10) pe_int (fun _ _ => rfl)) (pa_cons (pe_tup (pa_cons pe_int (pa_cons pe_int (pa_cons pe_int (pa_cons pe_int (pa_cons pe_non (pa_cons pe_non pa_nil))))))) pa_nil)))
  (pss_one (ps_ret (pe_and (pe_call G_like (hr.mono (by first | decide | omega)) rfl T.like.g T.like.F.kp T.like.b .nil pass0 (pa_cons (pe_callN G_play (hr.mono (by first | decide | omega)) rfl T.play.g T.play.F.kp T.kb_play_1 pass0 (pa_cons (pv 8) pa_nil) (pk_cons (pe_callTy (call_lstK K) (by rfl) T.b_list (by decide +kernel) (pa_cons (pv 3) pa_nil)) pk_nil)) (pa_cons (pv 7) pa_nil))) (pe_one (pe_cmpR (op_eqDK K (hu65 hr)) (pe_meth0 (pv 8) T.cl_Script T.Script_steps.m G_Script_steps (hr.mono (by first | decide | omega)) T.Script_steps.b .nil pass0) (pv 2) (nomark _))))))))))))))), ?_⟩
  refine ⟨_, rfl, a, ns, 0, rfl, hS, hlen, by decide, by decide, fun p H1 np s1 w1 => ?_⟩
  refine ⟨_, rfl, p, 12, 0, rfl, w1, by decide, by decide, by decide, fun sv ds H2 b2 w2 hsv hst hl12 => ?_⟩
  have s2 : Same H H2 := But.same s1 b2 np
  have row : Row ds := ⟨hst, by omega⟩
  have hpm : Mut (H2 p) := w2.mut
  refine ⟨line_of (Nat.zero_le _), fun la nla => ⟨line_of (by show 3 ≤ 100000; decide), fun tp ntp => ?_⟩⟩
  have hla0 := updN ntp
  have s24 : Same H2 (upd (upd H2 la (.lst [])) tp (.tup [sv, .ref la, .int 0])) := (Same.new nla).trans (Same.new ntp)
  have hla : upd (upd H2 la (.lst [])) tp (.tup [sv, .ref la, .int 0]) la = some (.lst []) := Same.new ntp _ _ upd_same
  refine ⟨tp, _, rfl, SqT.of upd_same, rfl, _, _, rfl, _, _, rfl, _, _, rfl, rfl, ?_⟩
  have hsv4 := s24.dp hsv
  have w4 := w2.same s24
  have s4 := s2.trans s24
  have nlaH : H la = none := s2.free nla
  generalize upd (upd H2 la (.lst [])) tp (.tup [sv, .ref la, .int 0]) = H4 at hla hsv4 w4 s4
  -- the turns
  refine ⟨_, rfl, .ref a, ns.length, rfl, .inl ⟨_, hS.same s4, by simp⟩, _, _, rfl, rfl, _, _, rfl, _, rfl, p, 31, 200, rfl, w4.mono (by decide), by decide, by decide, by decide, fun m H5 m0 m1 w5 b5 => ⟨_, _, rfl, _, rfl, ?_, ?_, ?_⟩⟩
  · split <;> split <;> omega
  · split <;> split <;> omega
  generalize hn : (if m > (if ((ns.length : Int) - 1) < 60 then ((ns.length : Int) - 1) else 60) then m else (if ((ns.length : Int) - 1) < 60 then ((ns.length : Int) - 1) else 60)) = n
  have hn1 : n.toNat ≤ 60 := by rw [← hn]; split <;> split <;> omega
  have hlap : la ≠ p := by
    obtain ⟨_, _, _, e, _⟩ := w4
    intro z; rw [z, e] at hla; cases hla
  have s5 : Same H H5 := But.same s4 b5 np
  have hla5 := b5.keep _ _ hla hlap
  have hsv5 := b5.dp row.imm hsv4
  refine for_range (n := n.toNat) (fun i σ H' => ∃ v5 v6 xs es, σ = [some (.ref a), some (.ref p), some sv, some (.ref la), some (.int (((playAll (ds.map wordsOf) Led.init es).elder.length : Nat) : Int)), v5, v6, none, none, none, none, none] ∧ Same H H' ∧ WellAt H' p (300 + 40 * i) ∧
    H' la = some (.lst xs) ∧ DpAll K H' xs (es.map dD) ∧ OkAll (ds.map wordsOf) Led.init es ∧ (∀ e ∈ es, isOld e = true) ∧ (∀ e ∈ es, okDeed e = true) ∧ es.length = i ∧ Dp K H' sv (.tuple ds))
    ⟨none, none, [], [], rfl, s5, w5.mono (by omega), hla5, .nil, trivial, fun e h => absurd h (List.not_mem_nil), fun e h => absurd h (List.not_mem_nil), rfl, hsv5⟩ ?_ ?_
  · rintro i σ H6 hi ⟨v5, v6, xs, es, rfl, s6, w6, hla6, hxs6, hall, hold, hok, hel, hsv6⟩
    have hlx := hxs6.length
    rw [List.length_map] at hlx
    refine ⟨_, rfl, ?_⟩
    refine ⟨fun σ' H' => ∃ q, σ' = [some (.ref a), some (.ref p), some sv, some (.ref la), some (.int (((playAll (ds.map wordsOf) Led.init es).elder.length : Nat) : Int)), some (.int (0 + (i : Int))), some (.ref q), none, none, none, none, none] ∧ Same H6 H' ∧ WellAt H' q (300 + 40 * i) ∧ (q = p ∨ H6 q = none), ?_, ?_⟩
    · refine ⟨_, rfl, _, _, rfl, rfl, _, rfl, .ref a, ns.length, rfl, .inl ⟨_, hS.same s6, by simp⟩, _, _, rfl, rfl, _, rfl, ite2 (fun c => ?_) (fun c => ?_)⟩
      · refine ⟨_, rfl, _, rfl, _, _, rfl, rfl, a, ns, 1 + (0 + (i : Int)), rfl, hS.same s6, hlen, by omega, by omega, fun q H7 nq s7 w7 => ?_⟩
        exact ⟨q, rfl, s7, w7.mono (by omega), .inr nq⟩
      · exact ⟨p, rfl, Same.refl _, w6, .inl rfl⟩
    rintro σ' H7 ⟨q, rfl, s7, w7, hq⟩
    have hla7 := s7 _ _ hla6
    have hlaq : la ≠ q := by
      obtain ⟨_, _, _, e, _⟩ := w7
      intro z; rw [z, e] at hla7; cases hla7
      rcases hq with rfl | hq
      · exact hlap z
      · rw [z, hq] at hla6; cases hla6
    have hmany : (playAll (ds.map wordsOf) Led.init es).elder.length ≤ es.length := by
      rw [(playOld hold hall).2.1]
      have := List.length_filter_le isAdd es
      show 0 + _ ≤ _
      omega
    refine ⟨_, rfl, .inl ⟨rfl, _, SqL.of hla7⟩, _, rfl, _, rfl, q, _, 300 + 40 * i, rfl, w7, by omega, by omega, by omega, fun v e H8 b8 w8 hv hoke hn => ?_⟩
    have hla8 := b8.keep _ _ hla7 hlaq
    refine ⟨la, xs, v, rfl, rfl, hla8, line_lt (by omega), ?_⟩
    obtain ⟨ai, rfl, hai⟩ := dD_inv hv
    have t9 : Tups H8 (upd H8 la (.lst (xs ++ [.ref ai]))) := Tups.mut (by rw [hla8]; trivial)
    have hold' : isOld e = true := old_of hn
    obtain ⟨wd, hw0, hw1⟩ : ∃ wd : Str, (dV e)[0]? = some (.str wd) ∧ isAdd e = decide (wd = "add") := by
      cases e <;> first | exact ⟨_, rfl, rfl⟩ | exact absurd hold' Bool.false_ne_true
    refine ⟨_, rfl, _, rfl, _, rfl, la, _, _, .ref ai, rfl, rfl, SqL.of upd_same, atI_last xs _, ai, _, 0, .str wd, rfl, rfl, t9.sqT hai, atI_nat (j := 0) hw0, rfl, .inr ⟨_, rfl, _, _, rfl, rfl, ?_⟩⟩
    have okm := okM_of hn
    have n6 : H p = none := np
    have s68 : Same H H8 := by
      intro b o hb
      refine b8.keep b o (s7 _ _ (s6 _ _ hb)) ?_
      rcases hq with rfl | hq
      · exact ne_of_none hb np
      · exact ne_of_none (s6 _ _ hb) hq
    have w9 : WellAt H8 p (300 + 40 * (i + 1 : Nat)) := by
      rcases hq with rfl | hq
      · exact w8.mono (by omega)
      · obtain ⟨z0, z1, z2, e0, e1, e2, e3, e4⟩ := w6
        exact ⟨z0, z1, z2, b8.keep _ _ (s7 _ _ e0) (ne_of_none e0 hq), e1, e2, e3, by omega⟩
    have imd : immAll (es.map dD) = true := imm_all fun d hd => by
      obtain ⟨e, _, rfl⟩ := List.mem_map.mp hd
      exact imm_dD e
    refine ⟨some (.int (0 + (i : Int))), some (.ref q), xs ++ [.ref ai], es ++ [e], ?_, s68.mut nlaH, ?_, upd_same, ?_, OkAll.snoc hall okm, fun x hx => ?_, fun x hx => ?_, by rw [List.length_append, hel]; rfl, t9.dp row.imm (b8.dp row.imm (s7.dp hsv6))⟩
    · have e1 : (((playAll (ds.map wordsOf) Led.init es).elder.length : Nat) : Int) + (if (decide (V.str wd = V.str "add")) = true then 1 else 0) = (((playAll (ds.map wordsOf) Led.init (es ++ [e])).elder.length : Nat) : Int) := by
        rw [playAll_snoc2, (play1_old hold').2]
        have e2 : decide (V.str wd = V.str "add") = isAdd e := by rw [hw1]; simp
        rw [e2]
        split <;> simp
      rw [← e1]
      rfl
    · obtain ⟨z0, z1, z2, e0, e1, e2, e3, e4⟩ := w9
      exact ⟨z0, z1, z2, by rw [upd_ne (Ne.symm hlap)]; exact e0, e1, e2, e3, e4⟩
    · rw [List.map_append]
      exact (t9.dpAll imd (b8.dpAll imd (s7.dpAll hxs6))).append (.one (t9.dp (imm_dD e) hv))
    · rcases List.mem_append.mp hx with hx | hx
      · exact hold x hx
      · rw [List.mem_singleton.mp hx]; exact hold'
    · rcases List.mem_append.mp hx with hx | hx
      · exact hok x hx
      · rw [List.mem_singleton.mp hx]; exact hoke
  rintro σ H6 ⟨v5, v6, xs, es, rfl, s6, w6, hla6, hxs6, hall, hold, hok, hel, hsv6⟩
  have hlx := hxs6.length
  rw [List.length_map] at hlx
  obtain ⟨pl1, pl2, pl3⟩ := playOld hold hall
  have elen : (playAll (ds.map wordsOf) Led.init es).elder.length = (es.filter isAdd).length := by rw [pl2]; exact Nat.zero_add _
  rw [elen]
  have few : (es.filter isAdd).length ≤ es.length := List.length_filter_le isAdd es
  obtain ⟨due1, due2⟩ := due_is hold hall
  have imdue : immAll (dueRows es) = true := imm_all fun d hd => by
    obtain ⟨k, _, rfl⟩ := List.mem_map.mp hd
    simp [oRow, imm, immAll, imm_tD]
  have ldue : (dueRows es).length = (es.filter isAdd).length := by simp [dueRows]
  have lsome : ∀ k, k < (es.filter isAdd).length → ∃ o, lineM es k = some o := fun k hk => by
    unfold lineM; rw [List.getElem?_eq_getElem hk]; exact ⟨_, rfl⟩
  -- due
  refine ⟨_, rfl, _, _, rfl, rfl, 1, _, rfl, ⟨by decide, by decide, by omega, by omega⟩, fun D nD => ?_⟩
  refine lc_range (n := ((((es.filter isAdd).length : Nat) : Int) + 1 - 1).toNat) (fun i H' => Same H6 H' ∧ ∃ ys, H' D = some (.lst ys) ∧ DpAll K H' ys ((dueRows es).take i)) ⟨Same.new nD, [], upd_same, .nil⟩ ?_ ?_
  · rintro i H' hi ⟨s, ys, hD, hys⟩
    have hi : i < (es.filter isAdd).length := by omega
    obtain ⟨o, ho⟩ := lsome i hi
    refine ⟨rfl, _, rfl, _, rfl, la, es, i, o, by rw [Int.add_comm]; rfl, ⟨xs, (SqL.of hla6).same s, s.dpAll hxs6⟩, by omega, hold, ho, fun v H'' s' hv => ⟨ys, s' _ _ hD, ?_, ?_⟩⟩
    · refine line_lt ?_
      rw [hys.length, List.length_take]; omega
    · have t : Tups H'' (upd H'' D (.lst (ys ++ [v]))) := Tups.mut (by rw [s' _ _ hD]; trivial)
      have hd : (dueRows es)[i]? = some (oRow ((i : Int) + 1) o) := by
        rw [dueRows, List.getElem?_map, List.getElem?_range hi]
        show some (oRow ((i : Int) + 1) ((lineM es i).getD _)) = _
        rw [ho]; rfl
      refine ⟨(s.trans s').mut nD, _, upd_same, ?_⟩
      rw [List.take_add_one, hd]
      exact (t.dpAll (immAll_take i imdue) (s'.dpAll hys)).snoc (t.dp (immAll_get imdue hd) hv)
  rintro H7 ⟨s7, ys, hD7, hys7⟩
  rw [show ((((es.filter isAdd).length : Nat) : Int) + 1 - 1).toNat = (dueRows es).length by omega, List.take_length] at hys7
  refine ⟨line_of (Nat.zero_le _), fun D2 nD2 => ⟨line_of (by show 2 ≤ 100000; decide), fun du ndu => ?_⟩⟩
  have s79 : Same H7 (upd (upd H7 D2 (.lst [])) du (.tup [.ref D, .ref D2])) := (Same.new nD2).trans (Same.new ndu)
  have hdu : upd (upd H7 D2 (.lst [])) du (.tup [.ref D, .ref D2]) du = some (.tup [.ref D, .ref D2]) := upd_same
  have hD2 : upd (upd H7 D2 (.lst [])) du (.tup [.ref D, .ref D2]) D2 = some (.lst []) := Same.new ndu _ _ upd_same
  have hD : upd (upd H7 D2 (.lst [])) du (.tup [.ref D, .ref D2]) D = some (.lst ys) := s79 _ _ hD7
  have hys := s79.dpAll hys7
  have s9 := s7.trans s79
  generalize upd (upd H7 D2 (.lst [])) du (.tup [.ref D, .ref D2]) = H9 at hdu hD2 hD hys s9
  -- work, handed
  refine ⟨_, rfl, fun x dx nx ndx nex => ?_⟩
  refine ⟨x, dx, sv, ds, rfl, upd_same, (same_ins nx ndx).dp (s9.dp hsv6), row, fun H10 hx10 k10 => ⟨rfl, ?_⟩⟩
  obtain ⟨s10, sc10⟩ := scr_made nx ndx (s9.dp hsv6) hx10 k10
  have s610 := s9.trans s10
  refine ⟨_, rfl, la, xs, rfl, .inl (SqL.of (s610 _ _ hla6)), fun hh nhh => ⟨_, _, rfl, ?_⟩⟩
  have s1011 : Same H10 (upd H10 hh (.lst xs)) := Same.new nhh
  have hhh : upd H10 hh (.lst xs) hh = some (.lst xs) := upd_same
  have sc11 := sc10.same s1011
  have s611 := s610.trans s1011
  have hdu := s1011 _ _ (s10 _ _ hdu)
  have hD := s1011 _ _ (s10 _ _ hD)
  have hD2 := s1011 _ _ (s10 _ _ hD2)
  have hys := s1011.dpAll (s10.dpAll hys)
  generalize upd H10 hh (.lst xs) = H11 at hhh sc11 s611 hdu hD hD2 hys
  have norun : ∀ {sp sp' : Sp} {sq sq' : Sp}, ∀ e ∈ es, isRun e = true → (∀ vs H Q E, sp vs H Q E → sp' vs H Q E) ∧ (∀ vs H Q E, sq vs H Q E → sq' vs H Q E) := fun e he hr => by
    have := hold e he
    cases e <;> first | exact absurd hr Bool.false_ne_true | exact absurd this Bool.false_ne_true
  have fl : faultsM (ds.map wordsOf) es = [] := faultsOld hold
  have deedsAt : ∀ {H' : Hp} {q : Addr}, Same H6 H' → H' q = some (.lst xs) → DeedsAt K H' q es := fun s h => ⟨xs, SqL.of h, s.dpAll hxs6⟩
  refine ⟨_, rfl, _, rfl, x, hh, ds, es, rfl, sc11, row, deedsAt s611 hhh, by omega, hok, hall, by rw [fl]; exact Nat.zero_le _, norun, fun t e f zs us H12 s12 nt ne nf nef ht he hf hzs hus => ?_⟩
  rw [due1] at hzs
  rw [due2] at hus
  have hus0 : us = [] := by cases hus; rfl
  subst hus0
  have dpDue : ∀ {H' : Hp}, H' du = some (.tup [.ref D, .ref D2]) → H' D = some (.lst ys) → H' D2 = some (.lst []) → DpAll K H' ys (dueRows es) → Dp K H' (.ref du) (.tuple [.list (dueRows es), .list []]) := fun h1 h2 h3 h4 => .tupOf h1 (.cons (.lstOf h2 h4) (.one (.lstOf h3 .nil)))
  have okdue : okL 4 (.tuple [.list (dueRows es), .list []]) = true := okL_due (fun d hd => by
    obtain ⟨k, _, rfl⟩ := List.mem_map.mp hd
    exact okL_oRow _ _ 0) (by omega)
  refine ⟨_, rfl, _, rfl, .ref t, .ref du, _, rfl, .tupOf ht (.cons (.lstOf he hzs) (.one (.lstOf hf .nil))), dpDue (s12 _ _ hdu) (s12 _ _ hD) (s12 _ _ hD2) (s12.dpAll hys), okdue, fun H13 s13 => ⟨_, rfl, iteF' rfl ?_⟩⟩
  have s613 := (s611.trans s12).trans s13
  have hla13 := s613 _ _ hla6
  -- handed != acts
  refine ⟨_, rfl, _, rfl, .list (es.map dD), .list (es.map dD), .lstOf (s13 _ _ (s12 _ _ hhh)) (s613.dpAll hxs6), .lstOf hla13 (s613.dpAll hxs6), deeds_shaped es, deeds_shaped es, _, rfl, ?_⟩
  have eqd : PyData.eqv (.list (es.map dD)) (.list (es.map dD)) = true := by
    simp only [PyData.eqv]
    exact eqvAll_refl fun d hd => by
      obtain ⟨e, _, rfl⟩ := List.mem_map.mp hd
      exact eqv_dD e
  refine iteF' (by rw [eqd]; rfl) ?_
  -- faults
  refine ⟨_, rfl, _, rfl, la, xs, rfl, .inl (SqL.of hla13), fun h2 nh2 => ?_⟩
  have s14 : Same H13 (upd H13 h2 (.lst xs)) := Same.new nh2
  refine ⟨x, h2, ds, es, rfl, (sc11.same (s12.trans s13)).same s14, row, deedsAt (s613.trans s14) upd_same, by omega, hok, hall, by rw [fl]; exact Nat.zero_le _, norun, fun ff fxs H15 s15 nff hff hfxs => ?_⟩
  rw [fl] at hfxs
  have hfxs0 : fxs = [] := by cases hfxs; rfl
  subst hfxs0
  refine ⟨line_of (Nat.zero_le _), fun el nel => ⟨.ref ff, .ref el, .list [], rfl, .lstOf (Same.new nel _ _ hff) .nil, .lstOf upd_same .nil, rfl, fun H16 s16 => ⟨_, rfl, iteF' rfl ?_⟩⟩⟩
  have s1316 : Same H13 H16 := ((s14.trans s15).trans (Same.new nel)).trans s16
  have s1216 := s13.trans s1316
  have he16 := s1216 _ _ he
  have hf16 := s1216 _ _ hf
  have ht16 := s1216 _ _ ht
  have s616 := s613.trans s1316
  -- told[0].append(..)
  have lz := hzs.length
  refine ⟨_, rfl, t, _, 0, .ref e, rfl, rfl, SqT.of ht16, rfl, .inl ⟨rfl, _, SqL.of he16⟩, line_of (by show 6 ≤ 100000; decide), fun t1 nt1 => ⟨e, zs, .ref t1, rfl, rfl, Same.new nt1 _ _ he16, line_lt (by omega), ?_⟩⟩
  have s17 : Same H16 (upd H16 t1 (.tup [.int 0, .int 0, .int 0, .int 0, .non, .bl true])) := Same.new nt1
  generalize upd H16 t1 (.tup [.int 0, .int 0, .int 0, .int 0, .non, .bl true]) = H17 at s17 ⊢
  have b18 : But e H17 (upd H17 e (.lst (zs ++ [.ref t1]))) := But.mut (by rw [s17 _ _ he16]; trivial)
  have ht18 := b18.tups.1 _ _ (s17 _ _ ht16)
  have hf18 := b18.keep _ _ (s17 _ _ hf16) nef.symm
  refine ⟨_, rfl, t, _, 1, .ref f, rfl, rfl, SqT.of ht18, rfl, .inl ⟨rfl, _, SqL.of hf18⟩, line_of (by show 6 ≤ 100000; decide), fun t2 nt2 => ⟨f, [], .ref t2, rfl, rfl, Same.new nt2 _ _ hf18, line_lt (by show 0 < 100000; decide), ?_⟩⟩
  generalize upd H17 e (.lst (zs ++ [.ref t1])) = H18 at b18 ht18 hf18 nt2 ⊢
  have s19 : Same H18 (upd H18 t2 (.tup [.int 0, .int 0, .int 0, .int 0, .non, .non])) := Same.new nt2
  generalize upd H18 t2 (.tup [.int 0, .int 0, .int 0, .int 0, .non, .non]) = H19 at s19 ⊢
  have b20 : But f H19 (upd H19 f (.lst ([] ++ [.ref t2]))) := But.mut (by rw [s19 _ _ hf18]; trivial)
  generalize upd H19 f (.lst ([] ++ [.ref t2])) = H20 at b20 ⊢
  -- what stood ahead of play stands
  have keep : ∀ b o, H11 b = some o → H20 b = some o := fun b o h => by
    have nbe : b ≠ e := ne_of_none h ne
    have nbf : b ≠ f := ne_of_none h nf
    exact b20.keep _ _ (s19 _ _ (b18.keep _ _ (s17 _ _ (s1216 _ _ (s12 _ _ h))) nbe)) nbf
  have sk : Same H11 H20 := keep
  have s620 := s611.trans sk
  have sc20 := sc11.same sk
  refine ⟨_, rfl, _, rfl, la, xs, rfl, .inl (SqL.of (s620 _ _ hla6)), fun h3 nh3 => ⟨rfl, rfl, ?_⟩⟩
  have s21 : Same H20 (upd H20 h3 (.lst xs)) := Same.new nh3
  refine ⟨x, h3, ds, es, rfl, sc20.same s21, row, deedsAt (s620.trans s21) upd_same, by omega, hok, hall, by rw [fl]; exact Nat.zero_le _, norun, fun t' e' f' zs' us' H22 s22 nt' ne' nf' nef' ht' he' hf' hzs' hus' => ?_⟩
  rw [due1] at hzs'
  rw [due2] at hus'
  have hus0 : us' = [] := by cases hus'; rfl
  subst hus0
  have s1122 := (sk.trans s21).trans s22
  refine ⟨_, rfl, .ref t', .ref du, _, rfl, .tupOf ht' (.cons (.lstOf he' hzs') (.one (.lstOf hf' .nil))), dpDue (s1122 _ _ hdu) (s1122 _ _ hD) (s1122 _ _ hD2) (s1122.dpAll hys), okdue, fun H23 s23 => ⟨_, rfl, iteT' rfl ?_⟩⟩
  obtain ⟨sdx, su, hx23, hu23⟩ := sc11.same (s1122.trans s23)
  have s623 := s611.trans (s1122.trans s23)
  refine ⟨_, rfl, x, sdx, _, rfl, hx23, kf_no _ (by decide +kernel), x, sdx, su, rfl, hx23, _, rfl, .tuple ds, .tuple ds, hu23, s623.dp hsv6, row_shaped hst, row_shaped hst, ?_⟩
  have eqs : PyData.eqv (.tuple ds) (.tuple ds) = true := by
    simp only [PyData.eqv]
    exact eqvAll_refl fun d hd => (step_is d (hst d hd)).2.2.2
  rw [eqs]
  exact q _
end
end Y

namespace Y
open PySem L2
theorem tx_of {K : PySem.W.Frag} {h : Heap} {mg : Str → Option Value} (X : K.In h) (G : h.Ns mainGlobals mg)
    {C_Script C_OldLine C_NewLine C_Ledgers f_is_whole f_is_label f_is_amount f_is_number f_is_deed f_OldLine_init f_OldLine_row f_NewLine_init f_NewLine_row f_Ledgers_init f_Ledgers_old_line f_Ledgers_new_line f_Ledgers_rows f_Ledgers_check f_Ledgers_play_deed f_Ledgers_set_field f_Ledgers_write_field f_Ledgers_put_line f_Ledgers_run f_Ledgers_wrongs f_check_deeds f_played f_play f_faults f_is_step f_Script_init f_Script_steps f_well f_draw f_label f_amount f_step f_steps f_like f_old_act f_line f_law A_STEPS A_STEPS_2 A_STEPS_3 A_STEPS_4 A_STEPS_5 A_STEPS_6 A_STEPS_7 A_STEPS_8 A_STEPS_9 A_STEPS_10 A_STEPS_11 A_STEPS_12 A_STEPS_13 : Addr} {kV_is_whole dc_is_whole pm_is_whole cd_is_whole ct_is_whole oc_is_whole kV_is_label dc_is_label pm_is_label cd_is_label ct_is_label oc_is_label kV_is_amount dc_is_amount pm_is_amount cd_is_amount ct_is_amount oc_is_amount kV_is_number dc_is_number pm_is_number cd_is_number ct_is_number oc_is_number kV_is_deed dc_is_deed pm_is_deed cd_is_deed ct_is_deed oc_is_deed kV_OldLine_init dc_OldLine_init pm_OldLine_init cd_OldLine_init ct_OldLine_init oc_OldLine_init kV_OldLine_row dc_OldLine_row pm_OldLine_row cd_OldLine_row ct_OldLine_row oc_OldLine_row kV_NewLine_init dc_NewLine_init pm_NewLine_init cd_NewLine_init ct_NewLine_init oc_NewLine_init kV_NewLine_row dc_NewLine_row pm_NewLine_row cd_NewLine_row ct_NewLine_row oc_NewLine_row kV_Ledgers_init dc_Ledgers_init pm_Ledgers_init cd_Ledgers_init ct_Ledgers_init oc_Ledgers_init kV_Ledgers_old_line dc_Ledgers_old_line pm_Ledgers_old_line cd_Ledgers_old_line ct_Ledgers_old_line oc_Ledgers_old_line kV_Ledgers_new_line dc_Ledgers_new_line pm_Ledgers_new_line cd_Ledgers_new_line ct_Ledgers_new_line oc_Ledgers_new_line kV_Ledgers_rows dc_Ledgers_rows pm_Ledgers_rows cd_Ledgers_rows ct_Ledgers_rows oc_Ledgers_rows kV_Ledgers_check dc_Ledgers_check pm_Ledgers_check cd_Ledgers_check ct_Ledgers_check oc_Ledgers_check kV_Ledgers_play_deed dc_Ledgers_play_deed pm_Ledgers_play_deed cd_Ledgers_play_deed ct_Ledgers_play_deed oc_Ledgers_play_deed kV_Ledgers_set_field dc_Ledgers_set_field pm_Ledgers_set_field cd_Ledgers_set_field ct_Ledgers_set_field oc_Ledgers_set_field kV_Ledgers_write_field dc_Ledgers_write_field pm_Ledgers_write_field cd_Ledgers_write_field ct_Ledgers_write_field oc_Ledgers_write_field kV_Ledgers_put_line dc_Ledgers_put_line pm_Ledgers_put_line cd_Ledgers_put_line ct_Ledgers_put_line oc_Ledgers_put_line kV_Ledgers_run dc_Ledgers_run pm_Ledgers_run cd_Ledgers_run ct_Ledgers_run oc_Ledgers_run kV_Ledgers_wrongs dc_Ledgers_wrongs pm_Ledgers_wrongs cd_Ledgers_wrongs ct_Ledgers_wrongs oc_Ledgers_wrongs kV_check_deeds dc_check_deeds pm_check_deeds cd_check_deeds ct_check_deeds oc_check_deeds kV_played dc_played pm_played cd_played ct_played oc_played kV_play dc_play pm_play cd_play ct_play oc_play kV_faults dc_faults pm_faults cd_faults ct_faults oc_faults kV_is_step dc_is_step pm_is_step cd_is_step ct_is_step oc_is_step kV_Script_init dc_Script_init pm_Script_init cd_Script_init ct_Script_init oc_Script_init kV_Script_steps dc_Script_steps pm_Script_steps cd_Script_steps ct_Script_steps oc_Script_steps kV_well dc_well pm_well cd_well ct_well oc_well kV_draw dc_draw pm_draw cd_draw ct_draw oc_draw kV_label dc_label pm_label cd_label ct_label oc_label kV_amount dc_amount pm_amount cd_amount ct_amount oc_amount kV_step dc_step pm_step cd_step ct_step oc_step kV_steps dc_steps pm_steps cd_steps ct_steps oc_steps kV_like dc_like pm_like cd_like ct_like oc_like kV_old_act dc_old_act pm_old_act cd_old_act ct_old_act oc_old_act kV_line dc_line pm_line cd_line ct_line oc_line kV_law dc_law pm_law cd_law ct_law oc_law : Value} {od_is_whole an_is_whole od_is_label an_is_label od_is_amount an_is_amount od_is_number an_is_number od_is_deed an_is_deed od_OldLine_init an_OldLine_init od_OldLine_row an_OldLine_row od_NewLine_init an_NewLine_init od_NewLine_row an_NewLine_row od_Ledgers_init an_Ledgers_init od_Ledgers_old_line an_Ledgers_old_line od_Ledgers_new_line an_Ledgers_new_line od_Ledgers_rows an_Ledgers_rows od_Ledgers_check an_Ledgers_check od_Ledgers_play_deed an_Ledgers_play_deed od_Ledgers_set_field an_Ledgers_set_field od_Ledgers_write_field an_Ledgers_write_field od_Ledgers_put_line an_Ledgers_put_line od_Ledgers_run an_Ledgers_run od_Ledgers_wrongs an_Ledgers_wrongs od_check_deeds an_check_deeds od_played an_played od_play an_play od_faults an_faults od_is_step an_is_step od_Script_init an_Script_init od_Script_steps an_Script_steps od_well an_well od_draw an_draw od_label an_label od_amount an_amount od_step an_step od_steps an_steps od_like an_like od_old_act an_old_act od_line an_line od_law an_law dd_w_STEPS_0 dd_w_STEPS_13 dd_w_STEPS_15 dd_w_STEPS_18 dd_w_STEPS_21 dd_w_STEPS_24 dd_w_STEPS_27 dd_w_STEPS_30 dd_w_STEPS_33 dd_w_STEPS_36 dd_w_STEPS_39 dd_w_STEPS_42 dd_w_STEPS_45 : Option Addr} {sl_is_whole sl_is_label sl_is_amount sl_is_number sl_is_deed sl_OldLine_init sl_OldLine_row sl_NewLine_init sl_NewLine_row sl_Ledgers_init sl_Ledgers_old_line sl_Ledgers_new_line sl_Ledgers_rows sl_Ledgers_check sl_Ledgers_play_deed sl_Ledgers_set_field sl_Ledgers_write_field sl_Ledgers_put_line sl_Ledgers_run sl_Ledgers_wrongs sl_check_deeds sl_played sl_play sl_faults sl_is_step sl_Script_init sl_Script_steps sl_well sl_draw sl_label sl_amount sl_step sl_steps sl_like sl_old_act sl_line sl_law ss_w_STEPS_0 ss_w_STEPS_13 ss_w_STEPS_15 ss_w_STEPS_18 ss_w_STEPS_21 ss_w_STEPS_24 ss_w_STEPS_27 ss_w_STEPS_30 ss_w_STEPS_33 ss_w_STEPS_36 ss_w_STEPS_39 ss_w_STEPS_42 ss_w_STEPS_45 : Array (Option Value)} {tk_STEPS_15 tk_STEPS_17 tk_STEPS_18 tk_STEPS_20 tk_STEPS_21 tk_STEPS_23 tk_STEPS_24 tk_STEPS_26 tk_STEPS_27 tk_STEPS_29 tk_STEPS_30 tk_STEPS_32 tk_STEPS_33 tk_STEPS_35 tk_STEPS_36 tk_STEPS_38 tk_STEPS_39 tk_STEPS_41 tk_STEPS_42 tk_STEPS_44 tk_STEPS_45 tk_STEPS_47 tk_STEPS_48 tk_MOST_STEPS tk_MOST_LABEL tk_MOST_AMOUNT tk_MOST_NUMBER : Tok} {nn_w_STEPS_0 nn_w_STEPS_13 nn_w_STEPS_15 nn_w_STEPS_18 nn_w_STEPS_21 nn_w_STEPS_24 nn_w_STEPS_27 nn_w_STEPS_30 nn_w_STEPS_33 nn_w_STEPS_36 nn_w_STEPS_39 nn_w_STEPS_42 nn_w_STEPS_45 : Nat}
    (cn : PySem.W.specialIn K (.builtin "object.__class__") "__get__" = some (some (.builtin "getset_descriptor.__get__")))
    (ctk : PySem.W.takesIn K (.builtin "object.__class__") = some true)
    (nC_Script : PySem.W.nsIn K mainGlobals "Script" = some (some (.ref C_Script)))
    (nC_OldLine : PySem.W.nsIn K mainGlobals "OldLine" = some (some (.ref C_OldLine)))
    (nC_NewLine : PySem.W.nsIn K mainGlobals "NewLine" = some (some (.ref C_NewLine)))
    (nC_Ledgers : PySem.W.nsIn K mainGlobals "Ledgers" = some (some (.ref C_Ledgers)))
    (a_is_whole : PySem.W.nsIn K mainGlobals "is_whole" = some (some (.ref f_is_whole)))
    (l_is_whole : K.lookup f_is_whole = some ⟨oc_is_whole, od_is_whole, .func (PySem.W.fnOf "is_whole" "is_whole" (defArgs s_is_whole) (defBody s_is_whole) (defScope s_is_whole) .none kV_is_whole dc_is_whole pm_is_whole an_is_whole cd_is_whole ct_is_whole), sl_is_whole⟩)
    (c_is_whole : PySem.W.codeIn K cd_is_whole "is_whole" = true)
    (k_is_whole : PySem.W.keepIn K (.ref f_is_whole) = true)
    (a_is_label : PySem.W.nsIn K mainGlobals "is_label" = some (some (.ref f_is_label)))
    (l_is_label : K.lookup f_is_label = some ⟨oc_is_label, od_is_label, .func (PySem.W.fnOf "is_label" "is_label" (defArgs s_is_label) (defBody s_is_label) (defScope s_is_label) .none kV_is_label dc_is_label pm_is_label an_is_label cd_is_label ct_is_label), sl_is_label⟩)
    (c_is_label : PySem.W.codeIn K cd_is_label "is_label" = true)
    (k_is_label : PySem.W.keepIn K (.ref f_is_label) = true)
    (a_is_amount : PySem.W.nsIn K mainGlobals "is_amount" = some (some (.ref f_is_amount)))
    (l_is_amount : K.lookup f_is_amount = some ⟨oc_is_amount, od_is_amount, .func (PySem.W.fnOf "is_amount" "is_amount" (defArgs s_is_amount) (defBody s_is_amount) (defScope s_is_amount) .none kV_is_amount dc_is_amount pm_is_amount an_is_amount cd_is_amount ct_is_amount), sl_is_amount⟩)
    (c_is_amount : PySem.W.codeIn K cd_is_amount "is_amount" = true)
    (k_is_amount : PySem.W.keepIn K (.ref f_is_amount) = true)
    (a_is_number : PySem.W.nsIn K mainGlobals "is_number" = some (some (.ref f_is_number)))
    (l_is_number : K.lookup f_is_number = some ⟨oc_is_number, od_is_number, .func (PySem.W.fnOf "is_number" "is_number" (defArgs s_is_number) (defBody s_is_number) (defScope s_is_number) .none kV_is_number dc_is_number pm_is_number an_is_number cd_is_number ct_is_number), sl_is_number⟩)
    (c_is_number : PySem.W.codeIn K cd_is_number "is_number" = true)
    (k_is_number : PySem.W.keepIn K (.ref f_is_number) = true)
    (a_is_deed : PySem.W.nsIn K mainGlobals "is_deed" = some (some (.ref f_is_deed)))
    (l_is_deed : K.lookup f_is_deed = some ⟨oc_is_deed, od_is_deed, .func (PySem.W.fnOf "is_deed" "is_deed" (defArgs s_is_deed) (defBody s_is_deed) (defScope s_is_deed) .none kV_is_deed dc_is_deed pm_is_deed an_is_deed cd_is_deed ct_is_deed), sl_is_deed⟩)
    (c_is_deed : PySem.W.codeIn K cd_is_deed "is_deed" = true)
    (k_is_deed : PySem.W.keepIn K (.ref f_is_deed) = true)
    (a_OldLine_init : PySem.W.findIn K (.ref C_OldLine) "__init__" = some (some (.ref f_OldLine_init)))
    (i_OldLine_init : PySem.W.isFn K (.ref f_OldLine_init) = true)
    (l_OldLine_init : K.lookup f_OldLine_init = some ⟨oc_OldLine_init, od_OldLine_init, .func (PySem.W.fnOf "__init__" "OldLine.__init__" (defArgs s_OldLine_init) (defBody s_OldLine_init) (defScope s_OldLine_init) .none kV_OldLine_init dc_OldLine_init pm_OldLine_init an_OldLine_init cd_OldLine_init ct_OldLine_init), sl_OldLine_init⟩)
    (c_OldLine_init : PySem.W.codeIn K cd_OldLine_init "OldLine.__init__" = true)
    (k_OldLine_init : PySem.W.keepIn K (.ref f_OldLine_init) = true)
    (a_OldLine_row : PySem.W.findIn K (.ref C_OldLine) "row" = some (some (.ref f_OldLine_row)))
    (i_OldLine_row : PySem.W.isFn K (.ref f_OldLine_row) = true)
    (l_OldLine_row : K.lookup f_OldLine_row = some ⟨oc_OldLine_row, od_OldLine_row, .func (PySem.W.fnOf "row" "OldLine.row" (defArgs s_OldLine_row) (defBody s_OldLine_row) (defScope s_OldLine_row) .none kV_OldLine_row dc_OldLine_row pm_OldLine_row an_OldLine_row cd_OldLine_row ct_OldLine_row), sl_OldLine_row⟩)
    (c_OldLine_row : PySem.W.codeIn K cd_OldLine_row "OldLine.row" = true)
    (k_OldLine_row : PySem.W.keepIn K (.ref f_OldLine_row) = true)
    (a_NewLine_init : PySem.W.findIn K (.ref C_NewLine) "__init__" = some (some (.ref f_NewLine_init)))
    (i_NewLine_init : PySem.W.isFn K (.ref f_NewLine_init) = true)
    (l_NewLine_init : K.lookup f_NewLine_init = some ⟨oc_NewLine_init, od_NewLine_init, .func (PySem.W.fnOf "__init__" "NewLine.__init__" (defArgs s_NewLine_init) (defBody s_NewLine_init) (defScope s_NewLine_init) .none kV_NewLine_init dc_NewLine_init pm_NewLine_init an_NewLine_init cd_NewLine_init ct_NewLine_init), sl_NewLine_init⟩)
    (c_NewLine_init : PySem.W.codeIn K cd_NewLine_init "NewLine.__init__" = true)
    (k_NewLine_init : PySem.W.keepIn K (.ref f_NewLine_init) = true)
    (a_NewLine_row : PySem.W.findIn K (.ref C_NewLine) "row" = some (some (.ref f_NewLine_row)))
    (i_NewLine_row : PySem.W.isFn K (.ref f_NewLine_row) = true)
    (l_NewLine_row : K.lookup f_NewLine_row = some ⟨oc_NewLine_row, od_NewLine_row, .func (PySem.W.fnOf "row" "NewLine.row" (defArgs s_NewLine_row) (defBody s_NewLine_row) (defScope s_NewLine_row) .none kV_NewLine_row dc_NewLine_row pm_NewLine_row an_NewLine_row cd_NewLine_row ct_NewLine_row), sl_NewLine_row⟩)
    (c_NewLine_row : PySem.W.codeIn K cd_NewLine_row "NewLine.row" = true)
    (k_NewLine_row : PySem.W.keepIn K (.ref f_NewLine_row) = true)
    (a_Ledgers_init : PySem.W.findIn K (.ref C_Ledgers) "__init__" = some (some (.ref f_Ledgers_init)))
    (i_Ledgers_init : PySem.W.isFn K (.ref f_Ledgers_init) = true)
    (l_Ledgers_init : K.lookup f_Ledgers_init = some ⟨oc_Ledgers_init, od_Ledgers_init, .func (PySem.W.fnOf "__init__" "Ledgers.__init__" (defArgs s_Ledgers_init) (defBody s_Ledgers_init) (defScope s_Ledgers_init) .none kV_Ledgers_init dc_Ledgers_init pm_Ledgers_init an_Ledgers_init cd_Ledgers_init ct_Ledgers_init), sl_Ledgers_init⟩)
    (c_Ledgers_init : PySem.W.codeIn K cd_Ledgers_init "Ledgers.__init__" = true)
    (k_Ledgers_init : PySem.W.keepIn K (.ref f_Ledgers_init) = true)
    (a_Ledgers_old_line : PySem.W.findIn K (.ref C_Ledgers) "old_line" = some (some (.ref f_Ledgers_old_line)))
    (i_Ledgers_old_line : PySem.W.isFn K (.ref f_Ledgers_old_line) = true)
    (l_Ledgers_old_line : K.lookup f_Ledgers_old_line = some ⟨oc_Ledgers_old_line, od_Ledgers_old_line, .func (PySem.W.fnOf "old_line" "Ledgers.old_line" (defArgs s_Ledgers_old_line) (defBody s_Ledgers_old_line) (defScope s_Ledgers_old_line) .none kV_Ledgers_old_line dc_Ledgers_old_line pm_Ledgers_old_line an_Ledgers_old_line cd_Ledgers_old_line ct_Ledgers_old_line), sl_Ledgers_old_line⟩)
    (c_Ledgers_old_line : PySem.W.codeIn K cd_Ledgers_old_line "Ledgers.old_line" = true)
    (k_Ledgers_old_line : PySem.W.keepIn K (.ref f_Ledgers_old_line) = true)
    (a_Ledgers_new_line : PySem.W.findIn K (.ref C_Ledgers) "new_line" = some (some (.ref f_Ledgers_new_line)))
    (i_Ledgers_new_line : PySem.W.isFn K (.ref f_Ledgers_new_line) = true)
    (l_Ledgers_new_line : K.lookup f_Ledgers_new_line = some ⟨oc_Ledgers_new_line, od_Ledgers_new_line, .func (PySem.W.fnOf "new_line" "Ledgers.new_line" (defArgs s_Ledgers_new_line) (defBody s_Ledgers_new_line) (defScope s_Ledgers_new_line) .none kV_Ledgers_new_line dc_Ledgers_new_line pm_Ledgers_new_line an_Ledgers_new_line cd_Ledgers_new_line ct_Ledgers_new_line), sl_Ledgers_new_line⟩)
    (c_Ledgers_new_line : PySem.W.codeIn K cd_Ledgers_new_line "Ledgers.new_line" = true)
    (k_Ledgers_new_line : PySem.W.keepIn K (.ref f_Ledgers_new_line) = true)
    (a_Ledgers_rows : PySem.W.findIn K (.ref C_Ledgers) "rows" = some (some (.ref f_Ledgers_rows)))
    (i_Ledgers_rows : PySem.W.isFn K (.ref f_Ledgers_rows) = true)
    (l_Ledgers_rows : K.lookup f_Ledgers_rows = some ⟨oc_Ledgers_rows, od_Ledgers_rows, .func (PySem.W.fnOf "rows" "Ledgers.rows" (defArgs s_Ledgers_rows) (defBody s_Ledgers_rows) (defScope s_Ledgers_rows) .none kV_Ledgers_rows dc_Ledgers_rows pm_Ledgers_rows an_Ledgers_rows cd_Ledgers_rows ct_Ledgers_rows), sl_Ledgers_rows⟩)
    (c_Ledgers_rows : PySem.W.codeIn K cd_Ledgers_rows "Ledgers.rows" = true)
    (k_Ledgers_rows : PySem.W.keepIn K (.ref f_Ledgers_rows) = true)
    (a_Ledgers_check : PySem.W.findIn K (.ref C_Ledgers) "check" = some (some (.ref f_Ledgers_check)))
    (i_Ledgers_check : PySem.W.isFn K (.ref f_Ledgers_check) = true)
    (l_Ledgers_check : K.lookup f_Ledgers_check = some ⟨oc_Ledgers_check, od_Ledgers_check, .func (PySem.W.fnOf "check" "Ledgers.check" (defArgs s_Ledgers_check) (defBody s_Ledgers_check) (defScope s_Ledgers_check) .none kV_Ledgers_check dc_Ledgers_check pm_Ledgers_check an_Ledgers_check cd_Ledgers_check ct_Ledgers_check), sl_Ledgers_check⟩)
    (c_Ledgers_check : PySem.W.codeIn K cd_Ledgers_check "Ledgers.check" = true)
    (k_Ledgers_check : PySem.W.keepIn K (.ref f_Ledgers_check) = true)
    (a_Ledgers_play_deed : PySem.W.findIn K (.ref C_Ledgers) "play_deed" = some (some (.ref f_Ledgers_play_deed)))
    (i_Ledgers_play_deed : PySem.W.isFn K (.ref f_Ledgers_play_deed) = true)
    (l_Ledgers_play_deed : K.lookup f_Ledgers_play_deed = some ⟨oc_Ledgers_play_deed, od_Ledgers_play_deed, .func (PySem.W.fnOf "play_deed" "Ledgers.play_deed" (defArgs s_Ledgers_play_deed) (defBody s_Ledgers_play_deed) (defScope s_Ledgers_play_deed) .none kV_Ledgers_play_deed dc_Ledgers_play_deed pm_Ledgers_play_deed an_Ledgers_play_deed cd_Ledgers_play_deed ct_Ledgers_play_deed), sl_Ledgers_play_deed⟩)
    (c_Ledgers_play_deed : PySem.W.codeIn K cd_Ledgers_play_deed "Ledgers.play_deed" = true)
    (k_Ledgers_play_deed : PySem.W.keepIn K (.ref f_Ledgers_play_deed) = true)
    (a_Ledgers_set_field : PySem.W.findIn K (.ref C_Ledgers) "set_field" = some (some (.ref f_Ledgers_set_field)))
    (i_Ledgers_set_field : PySem.W.isFn K (.ref f_Ledgers_set_field) = true)
    (l_Ledgers_set_field : K.lookup f_Ledgers_set_field = some ⟨oc_Ledgers_set_field, od_Ledgers_set_field, .func (PySem.W.fnOf "set_field" "Ledgers.set_field" (defArgs s_Ledgers_set_field) (defBody s_Ledgers_set_field) (defScope s_Ledgers_set_field) .none kV_Ledgers_set_field dc_Ledgers_set_field pm_Ledgers_set_field an_Ledgers_set_field cd_Ledgers_set_field ct_Ledgers_set_field), sl_Ledgers_set_field⟩)
    (c_Ledgers_set_field : PySem.W.codeIn K cd_Ledgers_set_field "Ledgers.set_field" = true)
    (k_Ledgers_set_field : PySem.W.keepIn K (.ref f_Ledgers_set_field) = true)
    (a_Ledgers_write_field : PySem.W.findIn K (.ref C_Ledgers) "write_field" = some (some (.ref f_Ledgers_write_field)))
    (i_Ledgers_write_field : PySem.W.isFn K (.ref f_Ledgers_write_field) = true)
    (l_Ledgers_write_field : K.lookup f_Ledgers_write_field = some ⟨oc_Ledgers_write_field, od_Ledgers_write_field, .func (PySem.W.fnOf "write_field" "Ledgers.write_field" (defArgs s_Ledgers_write_field) (defBody s_Ledgers_write_field) (defScope s_Ledgers_write_field) .none kV_Ledgers_write_field dc_Ledgers_write_field pm_Ledgers_write_field an_Ledgers_write_field cd_Ledgers_write_field ct_Ledgers_write_field), sl_Ledgers_write_field⟩)
    (c_Ledgers_write_field : PySem.W.codeIn K cd_Ledgers_write_field "Ledgers.write_field" = true)
    (k_Ledgers_write_field : PySem.W.keepIn K (.ref f_Ledgers_write_field) = true)
    (a_Ledgers_put_line : PySem.W.findIn K (.ref C_Ledgers) "put_line" = some (some (.ref f_Ledgers_put_line)))
    (i_Ledgers_put_line : PySem.W.isFn K (.ref f_Ledgers_put_line) = true)
    (l_Ledgers_put_line : K.lookup f_Ledgers_put_line = some ⟨oc_Ledgers_put_line, od_Ledgers_put_line, .func (PySem.W.fnOf "put_line" "Ledgers.put_line" (defArgs s_Ledgers_put_line) (defBody s_Ledgers_put_line) (defScope s_Ledgers_put_line) .none kV_Ledgers_put_line dc_Ledgers_put_line pm_Ledgers_put_line an_Ledgers_put_line cd_Ledgers_put_line ct_Ledgers_put_line), sl_Ledgers_put_line⟩)
    (c_Ledgers_put_line : PySem.W.codeIn K cd_Ledgers_put_line "Ledgers.put_line" = true)
    (k_Ledgers_put_line : PySem.W.keepIn K (.ref f_Ledgers_put_line) = true)
    (a_Ledgers_run : PySem.W.findIn K (.ref C_Ledgers) "run" = some (some (.ref f_Ledgers_run)))
    (i_Ledgers_run : PySem.W.isFn K (.ref f_Ledgers_run) = true)
    (l_Ledgers_run : K.lookup f_Ledgers_run = some ⟨oc_Ledgers_run, od_Ledgers_run, .func (PySem.W.fnOf "run" "Ledgers.run" (defArgs s_Ledgers_run) (defBody s_Ledgers_run) (defScope s_Ledgers_run) .none kV_Ledgers_run dc_Ledgers_run pm_Ledgers_run an_Ledgers_run cd_Ledgers_run ct_Ledgers_run), sl_Ledgers_run⟩)
    (c_Ledgers_run : PySem.W.codeIn K cd_Ledgers_run "Ledgers.run" = true)
    (k_Ledgers_run : PySem.W.keepIn K (.ref f_Ledgers_run) = true)
    (a_Ledgers_wrongs : PySem.W.findIn K (.ref C_Ledgers) "wrongs" = some (some (.ref f_Ledgers_wrongs)))
    (i_Ledgers_wrongs : PySem.W.isFn K (.ref f_Ledgers_wrongs) = true)
    (l_Ledgers_wrongs : K.lookup f_Ledgers_wrongs = some ⟨oc_Ledgers_wrongs, od_Ledgers_wrongs, .func (PySem.W.fnOf "wrongs" "Ledgers.wrongs" (defArgs s_Ledgers_wrongs) (defBody s_Ledgers_wrongs) (defScope s_Ledgers_wrongs) .none kV_Ledgers_wrongs dc_Ledgers_wrongs pm_Ledgers_wrongs an_Ledgers_wrongs cd_Ledgers_wrongs ct_Ledgers_wrongs), sl_Ledgers_wrongs⟩)
    (c_Ledgers_wrongs : PySem.W.codeIn K cd_Ledgers_wrongs "Ledgers.wrongs" = true)
    (k_Ledgers_wrongs : PySem.W.keepIn K (.ref f_Ledgers_wrongs) = true)
    (a_check_deeds : PySem.W.nsIn K mainGlobals "check_deeds" = some (some (.ref f_check_deeds)))
    (l_check_deeds : K.lookup f_check_deeds = some ⟨oc_check_deeds, od_check_deeds, .func (PySem.W.fnOf "check_deeds" "check_deeds" (defArgs s_check_deeds) (defBody s_check_deeds) (defScope s_check_deeds) .none kV_check_deeds dc_check_deeds pm_check_deeds an_check_deeds cd_check_deeds ct_check_deeds), sl_check_deeds⟩)
    (c_check_deeds : PySem.W.codeIn K cd_check_deeds "check_deeds" = true)
    (k_check_deeds : PySem.W.keepIn K (.ref f_check_deeds) = true)
    (a_played : PySem.W.nsIn K mainGlobals "played" = some (some (.ref f_played)))
    (l_played : K.lookup f_played = some ⟨oc_played, od_played, .func (PySem.W.fnOf "played" "played" (defArgs s_played) (defBody s_played) (defScope s_played) .none kV_played dc_played pm_played an_played cd_played ct_played), sl_played⟩)
    (c_played : PySem.W.codeIn K cd_played "played" = true)
    (k_played : PySem.W.keepIn K (.ref f_played) = true)
    (a_play : PySem.W.nsIn K mainGlobals "play" = some (some (.ref f_play)))
    (l_play : K.lookup f_play = some ⟨oc_play, od_play, .func (PySem.W.fnOf "play" "play" (defArgs s_play) (defBody s_play) (defScope s_play) .none kV_play dc_play pm_play an_play cd_play ct_play), sl_play⟩)
    (c_play : PySem.W.codeIn K cd_play "play" = true)
    (k_play : PySem.W.keepIn K (.ref f_play) = true)
    (a_faults : PySem.W.nsIn K mainGlobals "faults" = some (some (.ref f_faults)))
    (l_faults : K.lookup f_faults = some ⟨oc_faults, od_faults, .func (PySem.W.fnOf "faults" "faults" (defArgs s_faults) (defBody s_faults) (defScope s_faults) .none kV_faults dc_faults pm_faults an_faults cd_faults ct_faults), sl_faults⟩)
    (c_faults : PySem.W.codeIn K cd_faults "faults" = true)
    (k_faults : PySem.W.keepIn K (.ref f_faults) = true)
    (a_is_step : PySem.W.nsIn K mainGlobals "is_step" = some (some (.ref f_is_step)))
    (l_is_step : K.lookup f_is_step = some ⟨oc_is_step, od_is_step, .func (PySem.W.fnOf "is_step" "is_step" (defArgs s_is_step) (defBody s_is_step) (defScope s_is_step) .none kV_is_step dc_is_step pm_is_step an_is_step cd_is_step ct_is_step), sl_is_step⟩)
    (c_is_step : PySem.W.codeIn K cd_is_step "is_step" = true)
    (k_is_step : PySem.W.keepIn K (.ref f_is_step) = true)
    (a_Script_init : PySem.W.findIn K (.ref C_Script) "__init__" = some (some (.ref f_Script_init)))
    (i_Script_init : PySem.W.isFn K (.ref f_Script_init) = true)
    (l_Script_init : K.lookup f_Script_init = some ⟨oc_Script_init, od_Script_init, .func (PySem.W.fnOf "__init__" "Script.__init__" (defArgs s_Script_init) (defBody s_Script_init) (defScope s_Script_init) .none kV_Script_init dc_Script_init pm_Script_init an_Script_init cd_Script_init ct_Script_init), sl_Script_init⟩)
    (c_Script_init : PySem.W.codeIn K cd_Script_init "Script.__init__" = true)
    (k_Script_init : PySem.W.keepIn K (.ref f_Script_init) = true)
    (a_Script_steps : PySem.W.findIn K (.ref C_Script) "steps" = some (some (.ref f_Script_steps)))
    (i_Script_steps : PySem.W.isFn K (.ref f_Script_steps) = true)
    (l_Script_steps : K.lookup f_Script_steps = some ⟨oc_Script_steps, od_Script_steps, .func (PySem.W.fnOf "steps" "Script.steps" (defArgs s_Script_steps) (defBody s_Script_steps) (defScope s_Script_steps) .none kV_Script_steps dc_Script_steps pm_Script_steps an_Script_steps cd_Script_steps ct_Script_steps), sl_Script_steps⟩)
    (c_Script_steps : PySem.W.codeIn K cd_Script_steps "Script.steps" = true)
    (k_Script_steps : PySem.W.keepIn K (.ref f_Script_steps) = true)
    (a_well : PySem.W.nsIn K mainGlobals "_law_well" = some (some (.ref f_well)))
    (l_well : K.lookup f_well = some ⟨oc_well, od_well, .func (PySem.W.fnOf "_law_well" "_law_well" (defArgs s_well) (defBody s_well) (defScope s_well) .none kV_well dc_well pm_well an_well cd_well ct_well), sl_well⟩)
    (c_well : PySem.W.codeIn K cd_well "_law_well" = true)
    (k_well : PySem.W.keepIn K (.ref f_well) = true)
    (a_draw : PySem.W.nsIn K mainGlobals "_law_draw" = some (some (.ref f_draw)))
    (l_draw : K.lookup f_draw = some ⟨oc_draw, od_draw, .func (PySem.W.fnOf "_law_draw" "_law_draw" (defArgs s_draw) (defBody s_draw) (defScope s_draw) .none kV_draw dc_draw pm_draw an_draw cd_draw ct_draw), sl_draw⟩)
    (c_draw : PySem.W.codeIn K cd_draw "_law_draw" = true)
    (k_draw : PySem.W.keepIn K (.ref f_draw) = true)
    (a_label : PySem.W.nsIn K mainGlobals "_law_label" = some (some (.ref f_label)))
    (l_label : K.lookup f_label = some ⟨oc_label, od_label, .func (PySem.W.fnOf "_law_label" "_law_label" (defArgs s_label) (defBody s_label) (defScope s_label) .none kV_label dc_label pm_label an_label cd_label ct_label), sl_label⟩)
    (c_label : PySem.W.codeIn K cd_label "_law_label" = true)
    (k_label : PySem.W.keepIn K (.ref f_label) = true)
    (a_amount : PySem.W.nsIn K mainGlobals "_law_amount" = some (some (.ref f_amount)))
    (l_amount : K.lookup f_amount = some ⟨oc_amount, od_amount, .func (PySem.W.fnOf "_law_amount" "_law_amount" (defArgs s_amount) (defBody s_amount) (defScope s_amount) .none kV_amount dc_amount pm_amount an_amount cd_amount ct_amount), sl_amount⟩)
    (c_amount : PySem.W.codeIn K cd_amount "_law_amount" = true)
    (k_amount : PySem.W.keepIn K (.ref f_amount) = true)
    (a_step : PySem.W.nsIn K mainGlobals "_law_step" = some (some (.ref f_step)))
    (l_step : K.lookup f_step = some ⟨oc_step, od_step, .func (PySem.W.fnOf "_law_step" "_law_step" (defArgs s_step) (defBody s_step) (defScope s_step) .none kV_step dc_step pm_step an_step cd_step ct_step), sl_step⟩)
    (c_step : PySem.W.codeIn K cd_step "_law_step" = true)
    (k_step : PySem.W.keepIn K (.ref f_step) = true)
    (a_steps : PySem.W.nsIn K mainGlobals "_law_steps" = some (some (.ref f_steps)))
    (l_steps : K.lookup f_steps = some ⟨oc_steps, od_steps, .func (PySem.W.fnOf "_law_steps" "_law_steps" (defArgs s_steps) (defBody s_steps) (defScope s_steps) .none kV_steps dc_steps pm_steps an_steps cd_steps ct_steps), sl_steps⟩)
    (c_steps : PySem.W.codeIn K cd_steps "_law_steps" = true)
    (k_steps : PySem.W.keepIn K (.ref f_steps) = true)
    (a_like : PySem.W.nsIn K mainGlobals "_law_like" = some (some (.ref f_like)))
    (l_like : K.lookup f_like = some ⟨oc_like, od_like, .func (PySem.W.fnOf "_law_like" "_law_like" (defArgs s_like) (defBody s_like) (defScope s_like) .none kV_like dc_like pm_like an_like cd_like ct_like), sl_like⟩)
    (c_like : PySem.W.codeIn K cd_like "_law_like" = true)
    (k_like : PySem.W.keepIn K (.ref f_like) = true)
    (a_old_act : PySem.W.nsIn K mainGlobals "_law_old_act" = some (some (.ref f_old_act)))
    (l_old_act : K.lookup f_old_act = some ⟨oc_old_act, od_old_act, .func (PySem.W.fnOf "_law_old_act" "_law_old_act" (defArgs s_old_act) (defBody s_old_act) (defScope s_old_act) .none kV_old_act dc_old_act pm_old_act an_old_act cd_old_act ct_old_act), sl_old_act⟩)
    (c_old_act : PySem.W.codeIn K cd_old_act "_law_old_act" = true)
    (k_old_act : PySem.W.keepIn K (.ref f_old_act) = true)
    (a_line : PySem.W.nsIn K mainGlobals "_law_line" = some (some (.ref f_line)))
    (l_line : K.lookup f_line = some ⟨oc_line, od_line, .func (PySem.W.fnOf "_law_line" "_law_line" (defArgs s_line) (defBody s_line) (defScope s_line) .none kV_line dc_line pm_line an_line cd_line ct_line), sl_line⟩)
    (c_line : PySem.W.codeIn K cd_line "_law_line" = true)
    (k_line : PySem.W.keepIn K (.ref f_line) = true)
    (a_law : PySem.W.nsIn K mainGlobals "law" = some (some (.ref f_law)))
    (l_law : K.lookup f_law = some ⟨oc_law, od_law, .func (PySem.W.fnOf "law" "law" (defArgs s_law) (defBody s_law) (defScope s_law) .none kV_law dc_law pm_law an_law cd_law ct_law), sl_law⟩)
    (c_law : PySem.W.codeIn K cd_law "law" = true)
    (k_law : PySem.W.keepIn K (.ref f_law) = true)
    (pg_Script : PySem.W.plainGet K C_Script Str.empty = true)
    (hd_Script : PySem.W.hasDictIn K C_Script = true)
    (po_Script : PySem.W.plainOver K C_Script = true)
    (sa_Script : PySem.W.findIn K (.ref C_Script) "__setattr__" = some (some (.builtin "object.__setattr__")))
    (mk_Script : PySem.W.makesIn K C_Script = true)
    (kc_Script : PySem.W.keepIn K (.ref C_Script) = true)
    (ha_Script : PySem.W.findIn K (.ref C_Script) "__class__" = some (some (.builtin "object.__class__")))
    (hm_Script : PySem.W.mroIn K C_Script (.type "object") = some true)
    (n_Script_kept_steps : PySem.W.findIn K (.ref C_Script) "kept_steps" = some none)
    (pg_OldLine : PySem.W.plainGet K C_OldLine Str.empty = true)
    (hd_OldLine : PySem.W.hasDictIn K C_OldLine = true)
    (po_OldLine : PySem.W.plainOver K C_OldLine = true)
    (sa_OldLine : PySem.W.findIn K (.ref C_OldLine) "__setattr__" = some (some (.builtin "object.__setattr__")))
    (mk_OldLine : PySem.W.makesIn K C_OldLine = true)
    (kc_OldLine : PySem.W.keepIn K (.ref C_OldLine) = true)
    (ha_OldLine : PySem.W.findIn K (.ref C_OldLine) "__class__" = some (some (.builtin "object.__class__")))
    (hm_OldLine : PySem.W.mroIn K C_OldLine (.type "object") = some true)
    (n_OldLine_number : PySem.W.findIn K (.ref C_OldLine) "number" = some none)
    (n_OldLine_label : PySem.W.findIn K (.ref C_OldLine) "label" = some none)
    (n_OldLine_start : PySem.W.findIn K (.ref C_OldLine) "start" = some none)
    (n_OldLine_moves : PySem.W.findIn K (.ref C_OldLine) "moves" = some none)
    (n_OldLine_tie : PySem.W.findIn K (.ref C_OldLine) "tie" = some none)
    (n_OldLine_standing : PySem.W.findIn K (.ref C_OldLine) "standing" = some none)
    (pg_NewLine : PySem.W.plainGet K C_NewLine Str.empty = true)
    (hd_NewLine : PySem.W.hasDictIn K C_NewLine = true)
    (po_NewLine : PySem.W.plainOver K C_NewLine = true)
    (sa_NewLine : PySem.W.findIn K (.ref C_NewLine) "__setattr__" = some (some (.builtin "object.__setattr__")))
    (mk_NewLine : PySem.W.makesIn K C_NewLine = true)
    (kc_NewLine : PySem.W.keepIn K (.ref C_NewLine) = true)
    (ha_NewLine : PySem.W.findIn K (.ref C_NewLine) "__class__" = some (some (.builtin "object.__class__")))
    (hm_NewLine : PySem.W.mroIn K C_NewLine (.type "object") = some true)
    (n_NewLine_number : PySem.W.findIn K (.ref C_NewLine) "number" = some none)
    (n_NewLine_label : PySem.W.findIn K (.ref C_NewLine) "label" = some none)
    (n_NewLine_start : PySem.W.findIn K (.ref C_NewLine) "start" = some none)
    (n_NewLine_source : PySem.W.findIn K (.ref C_NewLine) "source" = some none)
    (n_NewLine_moves : PySem.W.findIn K (.ref C_NewLine) "moves" = some none)
    (n_NewLine_tie : PySem.W.findIn K (.ref C_NewLine) "tie" = some none)
    (n_NewLine_typed : PySem.W.findIn K (.ref C_NewLine) "typed" = some none)
    (pg_Ledgers : PySem.W.plainGet K C_Ledgers Str.empty = true)
    (hd_Ledgers : PySem.W.hasDictIn K C_Ledgers = true)
    (po_Ledgers : PySem.W.plainOver K C_Ledgers = true)
    (sa_Ledgers : PySem.W.findIn K (.ref C_Ledgers) "__setattr__" = some (some (.builtin "object.__setattr__")))
    (mk_Ledgers : PySem.W.makesIn K C_Ledgers = true)
    (kc_Ledgers : PySem.W.keepIn K (.ref C_Ledgers) = true)
    (ha_Ledgers : PySem.W.findIn K (.ref C_Ledgers) "__class__" = some (some (.builtin "object.__class__")))
    (hm_Ledgers : PySem.W.mroIn K C_Ledgers (.type "object") = some true)
    (n_Ledgers_elder : PySem.W.findIn K (.ref C_Ledgers) "elder" = some none)
    (n_Ledgers_later : PySem.W.findIn K (.ref C_Ledgers) "later" = some none)
    (n_Ledgers_ever : PySem.W.findIn K (.ref C_Ledgers) "ever" = some none)
    (n_Ledgers_fresh : PySem.W.findIn K (.ref C_Ledgers) "fresh" = some none)
    (n_Ledgers_ahead : PySem.W.findIn K (.ref C_Ledgers) "ahead" = some none)
    (ne_Script_OldLine : C_Script ≠ C_OldLine)
    (ne_Script_NewLine : C_Script ≠ C_NewLine)
    (ne_Script_Ledgers : C_Script ≠ C_Ledgers)
    (ne_OldLine_NewLine : C_OldLine ≠ C_NewLine)
    (ne_OldLine_Ledgers : C_OldLine ≠ C_Ledgers)
    (ne_NewLine_Ledgers : C_NewLine ≠ C_Ledgers)
    (v_STEPS : PySem.W.nsIn K mainGlobals "STEPS" = some (some (.ref A_STEPS)))
    (w_STEPS_0 : K.lookup A_STEPS = some ⟨.type "tuple", dd_w_STEPS_0, .seq #[.ref A_STEPS_2, .ref A_STEPS_3, .ref A_STEPS_4, .ref A_STEPS_5, .ref A_STEPS_6, .ref A_STEPS_7, .ref A_STEPS_8, .ref A_STEPS_9, .ref A_STEPS_10, .ref A_STEPS_11, .ref A_STEPS_12, .ref A_STEPS_13] nn_w_STEPS_0, ss_w_STEPS_0⟩)
    (w_STEPS_13 : K.lookup A_STEPS_13 = some ⟨.type "tuple", dd_w_STEPS_13, .seq #[.str "drop" tk_STEPS_15] nn_w_STEPS_13, ss_w_STEPS_13⟩)
    (w_STEPS_15 : K.lookup A_STEPS_12 = some ⟨.type "tuple", dd_w_STEPS_15, .seq #[.str "tie" tk_STEPS_17, .str "free" tk_STEPS_18] nn_w_STEPS_15, ss_w_STEPS_15⟩)
    (w_STEPS_18 : K.lookup A_STEPS_11 = some ⟨.type "tuple", dd_w_STEPS_18, .seq #[.str "tie" tk_STEPS_20, .str "all" tk_STEPS_21] nn_w_STEPS_18, ss_w_STEPS_18⟩)
    (w_STEPS_21 : K.lookup A_STEPS_10 = some ⟨.type "tuple", dd_w_STEPS_21, .seq #[.str "tie" tk_STEPS_23, .str "new" tk_STEPS_24] nn_w_STEPS_21, ss_w_STEPS_21⟩)
    (w_STEPS_24 : K.lookup A_STEPS_9 = some ⟨.type "tuple", dd_w_STEPS_24, .seq #[.str "label" tk_STEPS_26, .str "free" tk_STEPS_27] nn_w_STEPS_24, ss_w_STEPS_24⟩)
    (w_STEPS_27 : K.lookup A_STEPS_8 = some ⟨.type "tuple", dd_w_STEPS_27, .seq #[.str "label" tk_STEPS_29, .str "all" tk_STEPS_30] nn_w_STEPS_27, ss_w_STEPS_27⟩)
    (w_STEPS_30 : K.lookup A_STEPS_7 = some ⟨.type "tuple", dd_w_STEPS_30, .seq #[.str "label" tk_STEPS_32, .str "new" tk_STEPS_33] nn_w_STEPS_30, ss_w_STEPS_30⟩)
    (w_STEPS_33 : K.lookup A_STEPS_6 = some ⟨.type "tuple", dd_w_STEPS_33, .seq #[.str "start" tk_STEPS_35, .str "free" tk_STEPS_36] nn_w_STEPS_33, ss_w_STEPS_33⟩)
    (w_STEPS_36 : K.lookup A_STEPS_5 = some ⟨.type "tuple", dd_w_STEPS_36, .seq #[.str "start" tk_STEPS_38, .str "all" tk_STEPS_39] nn_w_STEPS_36, ss_w_STEPS_36⟩)
    (w_STEPS_39 : K.lookup A_STEPS_4 = some ⟨.type "tuple", dd_w_STEPS_39, .seq #[.str "start" tk_STEPS_41, .str "new" tk_STEPS_42] nn_w_STEPS_39, ss_w_STEPS_39⟩)
    (w_STEPS_42 : K.lookup A_STEPS_3 = some ⟨.type "tuple", dd_w_STEPS_42, .seq #[.str "make" tk_STEPS_44, .str "standing" tk_STEPS_45] nn_w_STEPS_42, ss_w_STEPS_42⟩)
    (w_STEPS_45 : K.lookup A_STEPS_2 = some ⟨.type "tuple", dd_w_STEPS_45, .seq #[.str "make" tk_STEPS_47, .str "all" tk_STEPS_48] nn_w_STEPS_45, ss_w_STEPS_45⟩)
    (v_MOST_STEPS : PySem.W.nsIn K mainGlobals "MOST_STEPS" = some (some (.int 12 tk_MOST_STEPS)))
    (v_MOST_LABEL : PySem.W.nsIn K mainGlobals "MOST_LABEL" = some (some (.int 999999999999999999999999999999 tk_MOST_LABEL)))
    (v_MOST_AMOUNT : PySem.W.nsIn K mainGlobals "MOST_AMOUNT" = some (some (.int 1000000000000 tk_MOST_AMOUNT)))
    (v_MOST_NUMBER : PySem.W.nsIn K mainGlobals "MOST_NUMBER" = some (some (.int 1000000000 tk_MOST_NUMBER)))
    (z_len : PySem.W.nsIn K mainGlobals "len" = some none)
    (z_isinstance : PySem.W.nsIn K mainGlobals "isinstance" = some none)
    (z_int : PySem.W.nsIn K mainGlobals "int" = some none)
    (z_bool : PySem.W.nsIn K mainGlobals "bool" = some none)
    (z_str : PySem.W.nsIn K mainGlobals "str" = some none)
    (z_tuple : PySem.W.nsIn K mainGlobals "tuple" = some none)
    (z_list : PySem.W.nsIn K mainGlobals "list" = some none)
    (z_all : PySem.W.nsIn K mainGlobals "all" = some none)
    (z_max : PySem.W.nsIn K mainGlobals "max" = some none)
    (z_min : PySem.W.nsIn K mainGlobals "min" = some none)
    (z_abs : PySem.W.nsIn K mainGlobals "abs" = some none)
    (z_range : PySem.W.nsIn K mainGlobals "range" = some none)
    (z_enumerate : PySem.W.nsIn K mainGlobals "enumerate" = some none) :
    ∃ T : Tx K mg, ∀ (s : Shared) (v : Value), BindsTo s T.law.fd ⟨[v], []⟩ [("script", v)] := ⟨{
    c_Script := C_Script, g_Script := PySem.W.mg_of X G nC_Script,
    c_OldLine := C_OldLine, g_OldLine := PySem.W.mg_of X G nC_OldLine,
    c_NewLine := C_NewLine, g_NewLine := PySem.W.mg_of X G nC_NewLine,
    c_Ledgers := C_Ledgers, g_Ledgers := PySem.W.mg_of X G nC_Ledgers,
    is_whole := ⟨f_is_whole, _, fun_mk (st := s_is_whole) l_is_whole c_is_whole k_is_whole, PySem.W.mg_of X G a_is_whole, ((fun_mk (st := s_is_whole) l_is_whole c_is_whole k_is_whole).binds (ps := ["thing"]) fun _ _ _ _ _ _ us hl => match us, hl with | [_], _ => rfl)⟩,
    is_label := ⟨f_is_label, _, fun_mk (st := s_is_label) l_is_label c_is_label k_is_label, PySem.W.mg_of X G a_is_label, ((fun_mk (st := s_is_label) l_is_label c_is_label k_is_label).binds (ps := ["thing"]) fun _ _ _ _ _ _ us hl => match us, hl with | [_], _ => rfl)⟩,
    is_amount := ⟨f_is_amount, _, fun_mk (st := s_is_amount) l_is_amount c_is_amount k_is_amount, PySem.W.mg_of X G a_is_amount, ((fun_mk (st := s_is_amount) l_is_amount c_is_amount k_is_amount).binds (ps := ["thing"]) fun _ _ _ _ _ _ us hl => match us, hl with | [_], _ => rfl)⟩,
    is_number := ⟨f_is_number, _, fun_mk (st := s_is_number) l_is_number c_is_number k_is_number, PySem.W.mg_of X G a_is_number, ((fun_mk (st := s_is_number) l_is_number c_is_number k_is_number).binds (ps := ["thing"]) fun _ _ _ _ _ _ us hl => match us, hl with | [_], _ => rfl)⟩,
    is_deed := ⟨f_is_deed, _, fun_mk (st := s_is_deed) l_is_deed c_is_deed k_is_deed, PySem.W.mg_of X G a_is_deed, ((fun_mk (st := s_is_deed) l_is_deed c_is_deed k_is_deed).binds (ps := ["thing"]) fun _ _ _ _ _ _ us hl => match us, hl with | [_], _ => rfl)⟩,
    OldLine_init := ⟨f_OldLine_init, _, fun_mk (st := s_OldLine_init) l_OldLine_init c_OldLine_init k_OldLine_init, ⟨a_OldLine_init, i_OldLine_init, k_OldLine_init⟩, ((fun_mk (st := s_OldLine_init) l_OldLine_init c_OldLine_init k_OldLine_init).binds (ps := ["self", "number", "label", "start"]) fun _ _ _ _ _ _ us hl => match us, hl with | [_, _, _, _], _ => rfl)⟩,
    OldLine_row := ⟨f_OldLine_row, _, fun_mk (st := s_OldLine_row) l_OldLine_row c_OldLine_row k_OldLine_row, ⟨a_OldLine_row, i_OldLine_row, k_OldLine_row⟩, ((fun_mk (st := s_OldLine_row) l_OldLine_row c_OldLine_row k_OldLine_row).binds (ps := ["self"]) fun _ _ _ _ _ _ us hl => match us, hl with | [_], _ => rfl)⟩,
    NewLine_init := ⟨f_NewLine_init, _, fun_mk (st := s_NewLine_init) l_NewLine_init c_NewLine_init k_NewLine_init, ⟨a_NewLine_init, i_NewLine_init, k_NewLine_init⟩, ((fun_mk (st := s_NewLine_init) l_NewLine_init c_NewLine_init k_NewLine_init).binds (ps := ["self", "number", "label", "start", "source"]) fun _ _ _ _ _ _ us hl => match us, hl with | [_, _, _, _, _], _ => rfl)⟩,
    NewLine_row := ⟨f_NewLine_row, _, fun_mk (st := s_NewLine_row) l_NewLine_row c_NewLine_row k_NewLine_row, ⟨a_NewLine_row, i_NewLine_row, k_NewLine_row⟩, ((fun_mk (st := s_NewLine_row) l_NewLine_row c_NewLine_row k_NewLine_row).binds (ps := ["self"]) fun _ _ _ _ _ _ us hl => match us, hl with | [_], _ => rfl)⟩,
    Ledgers_init := ⟨f_Ledgers_init, _, fun_mk (st := s_Ledgers_init) l_Ledgers_init c_Ledgers_init k_Ledgers_init, ⟨a_Ledgers_init, i_Ledgers_init, k_Ledgers_init⟩, ((fun_mk (st := s_Ledgers_init) l_Ledgers_init c_Ledgers_init k_Ledgers_init).binds (ps := ["self"]) fun _ _ _ _ _ _ us hl => match us, hl with | [_], _ => rfl)⟩,
    Ledgers_old_line := ⟨f_Ledgers_old_line, _, fun_mk (st := s_Ledgers_old_line) l_Ledgers_old_line c_Ledgers_old_line k_Ledgers_old_line, ⟨a_Ledgers_old_line, i_Ledgers_old_line, k_Ledgers_old_line⟩, ((fun_mk (st := s_Ledgers_old_line) l_Ledgers_old_line c_Ledgers_old_line k_Ledgers_old_line).binds (ps := ["self", "number"]) fun _ _ _ _ _ _ us hl => match us, hl with | [_, _], _ => rfl)⟩,
    Ledgers_new_line := ⟨f_Ledgers_new_line, _, fun_mk (st := s_Ledgers_new_line) l_Ledgers_new_line c_Ledgers_new_line k_Ledgers_new_line, ⟨a_Ledgers_new_line, i_Ledgers_new_line, k_Ledgers_new_line⟩, ((fun_mk (st := s_Ledgers_new_line) l_Ledgers_new_line c_Ledgers_new_line k_Ledgers_new_line).binds (ps := ["self", "number"]) fun _ _ _ _ _ _ us hl => match us, hl with | [_, _], _ => rfl)⟩,
    Ledgers_rows := ⟨f_Ledgers_rows, _, fun_mk (st := s_Ledgers_rows) l_Ledgers_rows c_Ledgers_rows k_Ledgers_rows, ⟨a_Ledgers_rows, i_Ledgers_rows, k_Ledgers_rows⟩, ((fun_mk (st := s_Ledgers_rows) l_Ledgers_rows c_Ledgers_rows k_Ledgers_rows).binds (ps := ["self"]) fun _ _ _ _ _ _ us hl => match us, hl with | [_], _ => rfl)⟩,
    Ledgers_check := ⟨f_Ledgers_check, _, fun_mk (st := s_Ledgers_check) l_Ledgers_check c_Ledgers_check k_Ledgers_check, ⟨a_Ledgers_check, i_Ledgers_check, k_Ledgers_check⟩, ((fun_mk (st := s_Ledgers_check) l_Ledgers_check c_Ledgers_check k_Ledgers_check).binds (ps := ["self", "deed", "index"]) fun _ _ _ _ _ _ us hl => match us, hl with | [_, _, _], _ => rfl)⟩,
    Ledgers_play_deed := ⟨f_Ledgers_play_deed, _, fun_mk (st := s_Ledgers_play_deed) l_Ledgers_play_deed c_Ledgers_play_deed k_Ledgers_play_deed, ⟨a_Ledgers_play_deed, i_Ledgers_play_deed, k_Ledgers_play_deed⟩, ((fun_mk (st := s_Ledgers_play_deed) l_Ledgers_play_deed c_Ledgers_play_deed k_Ledgers_play_deed).binds (ps := ["self", "steps", "deed"]) fun _ _ _ _ _ _ us hl => match us, hl with | [_, _, _], _ => rfl)⟩,
    Ledgers_set_field := ⟨f_Ledgers_set_field, _, fun_mk (st := s_Ledgers_set_field) l_Ledgers_set_field c_Ledgers_set_field k_Ledgers_set_field, ⟨a_Ledgers_set_field, i_Ledgers_set_field, k_Ledgers_set_field⟩, ((fun_mk (st := s_Ledgers_set_field) l_Ledgers_set_field c_Ledgers_set_field k_Ledgers_set_field).binds (ps := ["self", "line", "deed"]) fun _ _ _ _ _ _ us hl => match us, hl with | [_, _, _], _ => rfl)⟩,
    Ledgers_write_field := ⟨f_Ledgers_write_field, _, fun_mk (st := s_Ledgers_write_field) l_Ledgers_write_field c_Ledgers_write_field k_Ledgers_write_field, ⟨a_Ledgers_write_field, i_Ledgers_write_field, k_Ledgers_write_field⟩, ((fun_mk (st := s_Ledgers_write_field) l_Ledgers_write_field c_Ledgers_write_field k_Ledgers_write_field).binds (ps := ["self", "line", "word", "value"]) fun _ _ _ _ _ _ us hl => match us, hl with | [_, _, _, _], _ => rfl)⟩,
    Ledgers_put_line := ⟨f_Ledgers_put_line, _, fun_mk (st := s_Ledgers_put_line) l_Ledgers_put_line c_Ledgers_put_line k_Ledgers_put_line, ⟨a_Ledgers_put_line, i_Ledgers_put_line, k_Ledgers_put_line⟩, ((fun_mk (st := s_Ledgers_put_line) l_Ledgers_put_line c_Ledgers_put_line k_Ledgers_put_line).binds (ps := ["self", "label", "start", "source"]) fun _ _ _ _ _ _ us hl => match us, hl with | [_, _, _, _], _ => rfl)⟩,
    Ledgers_run := ⟨f_Ledgers_run, _, fun_mk (st := s_Ledgers_run) l_Ledgers_run c_Ledgers_run k_Ledgers_run, ⟨a_Ledgers_run, i_Ledgers_run, k_Ledgers_run⟩, ((fun_mk (st := s_Ledgers_run) l_Ledgers_run c_Ledgers_run k_Ledgers_run).binds (ps := ["self", "steps"]) fun _ _ _ _ _ _ us hl => match us, hl with | [_, _], _ => rfl)⟩,
    Ledgers_wrongs := ⟨f_Ledgers_wrongs, _, fun_mk (st := s_Ledgers_wrongs) l_Ledgers_wrongs c_Ledgers_wrongs k_Ledgers_wrongs, ⟨a_Ledgers_wrongs, i_Ledgers_wrongs, k_Ledgers_wrongs⟩, ((fun_mk (st := s_Ledgers_wrongs) l_Ledgers_wrongs c_Ledgers_wrongs k_Ledgers_wrongs).binds (ps := ["self", "index"]) fun _ _ _ _ _ _ us hl => match us, hl with | [_, _], _ => rfl)⟩,
    check_deeds := ⟨f_check_deeds, _, fun_mk (st := s_check_deeds) l_check_deeds c_check_deeds k_check_deeds, PySem.W.mg_of X G a_check_deeds, ((fun_mk (st := s_check_deeds) l_check_deeds c_check_deeds k_check_deeds).binds (ps := ["deeds"]) fun _ _ _ _ _ _ us hl => match us, hl with | [_], _ => rfl)⟩,
    played := ⟨f_played, _, fun_mk (st := s_played) l_played c_played k_played, PySem.W.mg_of X G a_played, ((fun_mk (st := s_played) l_played c_played k_played).binds (ps := ["script", "deeds"]) fun _ _ _ _ _ _ us hl => match us, hl with | [_, _], _ => rfl)⟩,
    play := ⟨f_play, _, fun_mk (st := s_play) l_play c_play k_play, PySem.W.mg_of X G a_play, ((fun_mk (st := s_play) l_play c_play k_play).binds (ps := ["script", "deeds"]) fun _ _ _ _ _ _ us hl => match us, hl with | [_, _], _ => rfl)⟩,
    faults := ⟨f_faults, _, fun_mk (st := s_faults) l_faults c_faults k_faults, PySem.W.mg_of X G a_faults, ((fun_mk (st := s_faults) l_faults c_faults k_faults).binds (ps := ["script", "deeds"]) fun _ _ _ _ _ _ us hl => match us, hl with | [_, _], _ => rfl)⟩,
    is_step := ⟨f_is_step, _, fun_mk (st := s_is_step) l_is_step c_is_step k_is_step, PySem.W.mg_of X G a_is_step, ((fun_mk (st := s_is_step) l_is_step c_is_step k_is_step).binds (ps := ["thing"]) fun _ _ _ _ _ _ us hl => match us, hl with | [_], _ => rfl)⟩,
    Script_init := ⟨f_Script_init, _, fun_mk (st := s_Script_init) l_Script_init c_Script_init k_Script_init, ⟨a_Script_init, i_Script_init, k_Script_init⟩, ((fun_mk (st := s_Script_init) l_Script_init c_Script_init k_Script_init).binds (ps := ["self", "steps"]) fun _ _ _ _ _ _ us hl => match us, hl with | [_, _], _ => rfl)⟩,
    Script_steps := ⟨f_Script_steps, _, fun_mk (st := s_Script_steps) l_Script_steps c_Script_steps k_Script_steps, ⟨a_Script_steps, i_Script_steps, k_Script_steps⟩, ((fun_mk (st := s_Script_steps) l_Script_steps c_Script_steps k_Script_steps).binds (ps := ["self"]) fun _ _ _ _ _ _ us hl => match us, hl with | [_], _ => rfl)⟩,
    well := ⟨f_well, _, fun_mk (st := s_well) l_well c_well k_well, PySem.W.mg_of X G a_well, ((fun_mk (st := s_well) l_well c_well k_well).binds (ps := ["script", "k"]) fun _ _ _ _ _ _ us hl => match us, hl with | [_, _], _ => rfl)⟩,
    draw := ⟨f_draw, _, fun_mk (st := s_draw) l_draw c_draw k_draw, PySem.W.mg_of X G a_draw, ((fun_mk (st := s_draw) l_draw c_draw k_draw).binds (ps := ["well", "many"]) fun _ _ _ _ _ _ us hl => match us, hl with | [_, _], _ => rfl)⟩,
    label := ⟨f_label, _, fun_mk (st := s_label) l_label c_label k_label, PySem.W.mg_of X G a_label, ((fun_mk (st := s_label) l_label c_label k_label).binds (ps := ["well"]) fun _ _ _ _ _ _ us hl => match us, hl with | [_], _ => rfl)⟩,
    amount := ⟨f_amount, _, fun_mk (st := s_amount) l_amount c_amount k_amount, PySem.W.mg_of X G a_amount, ((fun_mk (st := s_amount) l_amount c_amount k_amount).binds (ps := ["well"]) fun _ _ _ _ _ _ us hl => match us, hl with | [_], _ => rfl)⟩,
    step := ⟨f_step, _, fun_mk (st := s_step) l_step c_step k_step, PySem.W.mg_of X G a_step, ((fun_mk (st := s_step) l_step c_step k_step).binds (ps := ["well"]) fun _ _ _ _ _ _ us hl => match us, hl with | [_], _ => rfl)⟩,
    steps := ⟨f_steps, _, fun_mk (st := s_steps) l_steps c_steps k_steps, PySem.W.mg_of X G a_steps, ((fun_mk (st := s_steps) l_steps c_steps k_steps).binds (ps := ["well", "most"]) fun _ _ _ _ _ _ us hl => match us, hl with | [_, _], _ => rfl)⟩,
    like := ⟨f_like, _, fun_mk (st := s_like) l_like c_like k_like, PySem.W.mg_of X G a_like, ((fun_mk (st := s_like) l_like c_like k_like).binds (ps := ["told", "due"]) fun _ _ _ _ _ _ us hl => match us, hl with | [_, _], _ => rfl)⟩,
    old_act := ⟨f_old_act, _, fun_mk (st := s_old_act) l_old_act c_old_act k_old_act, PySem.W.mg_of X G a_old_act, ((fun_mk (st := s_old_act) l_old_act c_old_act k_old_act).binds (ps := ["well", "many"]) fun _ _ _ _ _ _ us hl => match us, hl with | [_, _], _ => rfl)⟩,
    line := ⟨f_line, _, fun_mk (st := s_line) l_line c_line k_line, PySem.W.mg_of X G a_line, ((fun_mk (st := s_line) l_line c_line k_line).binds (ps := ["acts", "number"]) fun _ _ _ _ _ _ us hl => match us, hl with | [_, _], _ => rfl)⟩,
    law := ⟨f_law, _, fun_mk (st := s_law) l_law c_law k_law, PySem.W.mg_of X G a_law, ((fun_mk (st := s_law) l_law c_law k_law).binds (ps := ["script"]) fun _ _ _ _ _ _ us hl => match us, hl with | [_], _ => rfl)⟩,
    cl_Script := ⟨pg_Script, hd_Script, po_Script, sa_Script⟩,
    ic_Script := ⟨⟨pg_Script, hd_Script, po_Script, sa_Script⟩, ha_Script, cn, ctk, hm_Script⟩,
    mk_Script := ⟨mk_Script, a_Script_init, i_Script_init, kc_Script⟩,
    na_Script_kept_steps := n_Script_kept_steps,
    cl_OldLine := ⟨pg_OldLine, hd_OldLine, po_OldLine, sa_OldLine⟩,
    ic_OldLine := ⟨⟨pg_OldLine, hd_OldLine, po_OldLine, sa_OldLine⟩, ha_OldLine, cn, ctk, hm_OldLine⟩,
    mk_OldLine := ⟨mk_OldLine, a_OldLine_init, i_OldLine_init, kc_OldLine⟩,
    na_OldLine_number := n_OldLine_number,
    na_OldLine_label := n_OldLine_label,
    na_OldLine_start := n_OldLine_start,
    na_OldLine_moves := n_OldLine_moves,
    na_OldLine_tie := n_OldLine_tie,
    na_OldLine_standing := n_OldLine_standing,
    cl_NewLine := ⟨pg_NewLine, hd_NewLine, po_NewLine, sa_NewLine⟩,
    ic_NewLine := ⟨⟨pg_NewLine, hd_NewLine, po_NewLine, sa_NewLine⟩, ha_NewLine, cn, ctk, hm_NewLine⟩,
    mk_NewLine := ⟨mk_NewLine, a_NewLine_init, i_NewLine_init, kc_NewLine⟩,
    na_NewLine_number := n_NewLine_number,
    na_NewLine_label := n_NewLine_label,
    na_NewLine_start := n_NewLine_start,
    na_NewLine_source := n_NewLine_source,
    na_NewLine_moves := n_NewLine_moves,
    na_NewLine_tie := n_NewLine_tie,
    na_NewLine_typed := n_NewLine_typed,
    cl_Ledgers := ⟨pg_Ledgers, hd_Ledgers, po_Ledgers, sa_Ledgers⟩,
    ic_Ledgers := ⟨⟨pg_Ledgers, hd_Ledgers, po_Ledgers, sa_Ledgers⟩, ha_Ledgers, cn, ctk, hm_Ledgers⟩,
    mk_Ledgers := ⟨mk_Ledgers, a_Ledgers_init, i_Ledgers_init, kc_Ledgers⟩,
    na_Ledgers_elder := n_Ledgers_elder,
    na_Ledgers_later := n_Ledgers_later,
    na_Ledgers_ever := n_Ledgers_ever,
    na_Ledgers_fresh := n_Ledgers_fresh,
    na_Ledgers_ahead := n_Ledgers_ahead,
    ne_Script_OldLine := ne_Script_OldLine,
    ne_Script_NewLine := ne_Script_NewLine,
    ne_Script_Ledgers := ne_Script_Ledgers,
    ne_OldLine_NewLine := ne_OldLine_NewLine,
    ne_OldLine_Ledgers := ne_OldLine_Ledgers,
    ne_NewLine_Ledgers := ne_NewLine_Ledgers,
    a_STEPS := A_STEPS, g_STEPS := PySem.W.mg_of X G v_STEPS, d_STEPS := fun H => .tup (xs := [.ref A_STEPS_2, .ref A_STEPS_3, .ref A_STEPS_4, .ref A_STEPS_5, .ref A_STEPS_6, .ref A_STEPS_7, .ref A_STEPS_8, .ref A_STEPS_9, .ref A_STEPS_10, .ref A_STEPS_11, .ref A_STEPS_12, .ref A_STEPS_13]) (.inr ⟨_, _, _, w_STEPS_0, rfl, rfl, (by show 12 ≤ sizeLine; decide), (.cons rfl (.cons rfl (.cons rfl (.cons rfl (.cons rfl (.cons rfl (.cons rfl (.cons rfl (.cons rfl (.cons rfl (.cons rfl (.cons rfl .nil))))))))))))⟩) (.cons (.tup (xs := [(.str "make"), (.str "all")]) (.inr ⟨_, _, _, w_STEPS_45, rfl, rfl, (by show 2 ≤ sizeLine; decide), (.cons ⟨_, rfl⟩ (.cons ⟨_, rfl⟩ .nil))⟩) (.cons (.str _) (.cons (.str _) .nil))) (.cons (.tup (xs := [(.str "make"), (.str "standing")]) (.inr ⟨_, _, _, w_STEPS_42, rfl, rfl, (by show 2 ≤ sizeLine; decide), (.cons ⟨_, rfl⟩ (.cons ⟨_, rfl⟩ .nil))⟩) (.cons (.str _) (.cons (.str _) .nil))) (.cons (.tup (xs := [(.str "start"), (.str "new")]) (.inr ⟨_, _, _, w_STEPS_39, rfl, rfl, (by show 2 ≤ sizeLine; decide), (.cons ⟨_, rfl⟩ (.cons ⟨_, rfl⟩ .nil))⟩) (.cons (.str _) (.cons (.str _) .nil))) (.cons (.tup (xs := [(.str "start"), (.str "all")]) (.inr ⟨_, _, _, w_STEPS_36, rfl, rfl, (by show 2 ≤ sizeLine; decide), (.cons ⟨_, rfl⟩ (.cons ⟨_, rfl⟩ .nil))⟩) (.cons (.str _) (.cons (.str _) .nil))) (.cons (.tup (xs := [(.str "start"), (.str "free")]) (.inr ⟨_, _, _, w_STEPS_33, rfl, rfl, (by show 2 ≤ sizeLine; decide), (.cons ⟨_, rfl⟩ (.cons ⟨_, rfl⟩ .nil))⟩) (.cons (.str _) (.cons (.str _) .nil))) (.cons (.tup (xs := [(.str "label"), (.str "new")]) (.inr ⟨_, _, _, w_STEPS_30, rfl, rfl, (by show 2 ≤ sizeLine; decide), (.cons ⟨_, rfl⟩ (.cons ⟨_, rfl⟩ .nil))⟩) (.cons (.str _) (.cons (.str _) .nil))) (.cons (.tup (xs := [(.str "label"), (.str "all")]) (.inr ⟨_, _, _, w_STEPS_27, rfl, rfl, (by show 2 ≤ sizeLine; decide), (.cons ⟨_, rfl⟩ (.cons ⟨_, rfl⟩ .nil))⟩) (.cons (.str _) (.cons (.str _) .nil))) (.cons (.tup (xs := [(.str "label"), (.str "free")]) (.inr ⟨_, _, _, w_STEPS_24, rfl, rfl, (by show 2 ≤ sizeLine; decide), (.cons ⟨_, rfl⟩ (.cons ⟨_, rfl⟩ .nil))⟩) (.cons (.str _) (.cons (.str _) .nil))) (.cons (.tup (xs := [(.str "tie"), (.str "new")]) (.inr ⟨_, _, _, w_STEPS_21, rfl, rfl, (by show 2 ≤ sizeLine; decide), (.cons ⟨_, rfl⟩ (.cons ⟨_, rfl⟩ .nil))⟩) (.cons (.str _) (.cons (.str _) .nil))) (.cons (.tup (xs := [(.str "tie"), (.str "all")]) (.inr ⟨_, _, _, w_STEPS_18, rfl, rfl, (by show 2 ≤ sizeLine; decide), (.cons ⟨_, rfl⟩ (.cons ⟨_, rfl⟩ .nil))⟩) (.cons (.str _) (.cons (.str _) .nil))) (.cons (.tup (xs := [(.str "tie"), (.str "free")]) (.inr ⟨_, _, _, w_STEPS_15, rfl, rfl, (by show 2 ≤ sizeLine; decide), (.cons ⟨_, rfl⟩ (.cons ⟨_, rfl⟩ .nil))⟩) (.cons (.str _) (.cons (.str _) .nil))) (.cons (.tup (xs := [(.str "drop")]) (.inr ⟨_, _, _, w_STEPS_13, rfl, rfl, (by show 1 ≤ sizeLine; decide), (.cons ⟨_, rfl⟩ .nil)⟩) (.cons (.str _) .nil)) .nil)))))))))))),
    t_MOST_STEPS := tk_MOST_STEPS, g_MOST_STEPS := PySem.W.mg_of X G v_MOST_STEPS,
    t_MOST_LABEL := tk_MOST_LABEL, g_MOST_LABEL := PySem.W.mg_of X G v_MOST_LABEL,
    t_MOST_AMOUNT := tk_MOST_AMOUNT, g_MOST_AMOUNT := PySem.W.mg_of X G v_MOST_AMOUNT,
    t_MOST_NUMBER := tk_MOST_NUMBER, g_MOST_NUMBER := PySem.W.mg_of X G v_MOST_NUMBER,
    b_len := PySem.W.mg_none_of X G z_len,
    b_isinstance := PySem.W.mg_none_of X G z_isinstance,
    b_int := PySem.W.mg_none_of X G z_int,
    b_bool := PySem.W.mg_none_of X G z_bool,
    b_str := PySem.W.mg_none_of X G z_str,
    b_tuple := PySem.W.mg_none_of X G z_tuple,
    b_list := PySem.W.mg_none_of X G z_list,
    b_all := PySem.W.mg_none_of X G z_all,
    b_max := PySem.W.mg_none_of X G z_max,
    b_min := PySem.W.mg_none_of X G z_min,
    b_abs := PySem.W.mg_none_of X G z_abs,
    b_range := PySem.W.mg_none_of X G z_range,
    b_enumerate := PySem.W.mg_none_of X G z_enumerate,
    kb_play_1 := ⟨fun s us ws _ h1 h2 => match us, ws, h1, h2 with | [_], [_], _, _ => .of_eq rfl, fun r1 r2 => r1.append r2⟩ }, fun s v => .of_eq rfl⟩
theorem all_mk {l : PySem.W.OpenLaw} {w : World} {K : PySem.W.Frag} {mg : Str → Option Value} {fa : Addr} (hfa : mg "law" = some (.ref fa)) (h : ∃ T : Tx K mg, ∀ (s : Shared) (v : Value), BindsTo s T.law.fd ⟨[v], []⟩ [("script", v)]) :
    ∃ fd : FuncData, (∀ (s : Shared) (v : Value), BindsTo s fd ⟨[v], []⟩ [("script", v)]) ∧ ∀ base : Heap, K.In base → base.Ns mainGlobals mg → FnOk l.prog w K mg base CX0 14 fa fd ["script"] (spLaw K) := by
  obtain ⟨T, hb⟩ := h
  have e := hfa.symm.trans T.law.g
  cases e
  exact ⟨T.law.fd, hb, fun base _ _ => ok_law T⟩
theorem walk {l : PySem.W.OpenLaw} {q : Program} {loose : List Str} {XP : (Str → Option Value) → Heap → Prop} {YP : World → Heap → Prop} {d : DefRec} {K : Params → PySem.W.Frag} (hn : l.most = some 63) (hdf : d.params.defaults = [])
    (hY : ∀ (w : World) (h : Heap), YP w h → (K w.params).In h)
    (F : ∀ (w : World) (mg : Str → Option Value) (fa : Addr) (h : Heap), (K w.params).In h → h.Ns mainGlobals mg → mg d.name = some (.ref fa) →
      ∃ fd : FuncData, (∀ (s : Shared) (u : Value), BindsTo s fd ⟨[u], []⟩ [("script", u)]) ∧ ∀ base : Heap, (K w.params).In base → base.Ns mainGlobals mg → FnOk l.prog w (K w.params) mg base CX0 14 fa fd ["script"] (spLaw (K w.params))) :
    PySem.W.WalkO q loose XP YP l.row.toRowW d [] (fun f vs => PySem.call f vs) :=
  L2.walk_of (n := 63) (k := 14) (x := "script") (CX := fun _ => CX0) (sp := fun w => spLaw (K w.params)) hn (by decide) hdf ⟨rfl, by decide, by decide⟩ hY F (fun _ _ a ns hl _ hS => ⟨a, ns, rfl, hS, hl, fun _ => rfl⟩) fun _ _ _ _ _ z => z
end Y
open PySem PySem.W PyProof.Rows
set_option maxRecDepth 100000 in
set_option maxHeartbeats 0 in
theorem PySem.Challenge.cw_yearturned_k20_old_ledgers_holds : PySem.Challenge.rw_yearturned_k20_old_ledgers.Holds := by
  w_on; o_law; k_head; (case hw => w_witness2)
  k_fill
  refine Y.walk (l := PySem.Challenge.rw_yearturned_k20_old_ledgers) rfl rfl (fun w h Y => PySem.W.kIn_of Y) ?F
  case F =>
    intro w mg fa h KX G hmg
    refine Y.all_mk hmg ?_
    refine' Y.tx_of KX G ?cn ?ctk ?nC_Script ?nC_OldLine ?nC_NewLine ?nC_Ledgers ?a_is_whole ?l_is_whole ?c_is_whole ?k_is_whole ?a_is_label ?l_is_label ?c_is_label ?k_is_label ?a_is_amount ?l_is_amount ?c_is_amount ?k_is_amount ?a_is_number ?l_is_number ?c_is_number ?k_is_number ?a_is_deed ?l_is_deed ?c_is_deed ?k_is_deed ?a_OldLine_init ?i_OldLine_init ?l_OldLine_init ?c_OldLine_init ?k_OldLine_init ?a_OldLine_row ?i_OldLine_row ?l_OldLine_row ?c_OldLine_row ?k_OldLine_row ?a_NewLine_init ?i_NewLine_init ?l_NewLine_init ?c_NewLine_init ?k_NewLine_init ?a_NewLine_row ?i_NewLine_row ?l_NewLine_row ?c_NewLine_row ?k_NewLine_row ?a_Ledgers_init ?i_Ledgers_init ?l_Ledgers_init ?c_Ledgers_init ?k_Ledgers_init ?a_Ledgers_old_line ?i_Ledgers_old_line ?l_Ledgers_old_line ?c_Ledgers_old_line ?k_Ledgers_old_line ?a_Ledgers_new_line ?i_Ledgers_new_line ?l_Ledgers_new_line ?c_Ledgers_new_line ?k_Ledgers_new_line ?a_Ledgers_rows ?i_Ledgers_rows ?l_Ledgers_rows ?c_Ledgers_rows ?k_Ledgers_rows ?a_Ledgers_check ?i_Ledgers_check ?l_Ledgers_check ?c_Ledgers_check ?k_Ledgers_check ?a_Ledgers_play_deed ?i_Ledgers_play_deed ?l_Ledgers_play_deed ?c_Ledgers_play_deed ?k_Ledgers_play_deed ?a_Ledgers_set_field ?i_Ledgers_set_field ?l_Ledgers_set_field ?c_Ledgers_set_field ?k_Ledgers_set_field ?a_Ledgers_write_field ?i_Ledgers_write_field ?l_Ledgers_write_field ?c_Ledgers_write_field ?k_Ledgers_write_field ?a_Ledgers_put_line ?i_Ledgers_put_line ?l_Ledgers_put_line ?c_Ledgers_put_line ?k_Ledgers_put_line ?a_Ledgers_run ?i_Ledgers_run ?l_Ledgers_run ?c_Ledgers_run ?k_Ledgers_run ?a_Ledgers_wrongs ?i_Ledgers_wrongs ?l_Ledgers_wrongs ?c_Ledgers_wrongs ?k_Ledgers_wrongs ?a_check_deeds ?l_check_deeds ?c_check_deeds ?k_check_deeds ?a_played ?l_played ?c_played ?k_played ?a_play ?l_play ?c_play ?k_play ?a_faults ?l_faults ?c_faults ?k_faults ?a_is_step ?l_is_step ?c_is_step ?k_is_step ?a_Script_init ?i_Script_init ?l_Script_init ?c_Script_init ?k_Script_init ?a_Script_steps ?i_Script_steps ?l_Script_steps ?c_Script_steps ?k_Script_steps ?a_well ?l_well ?c_well ?k_well ?a_draw ?l_draw ?c_draw ?k_draw ?a_label ?l_label ?c_label ?k_label ?a_amount ?l_amount ?c_amount ?k_amount ?a_step ?l_step ?c_step ?k_step ?a_steps ?l_steps ?c_steps ?k_steps ?a_like ?l_like ?c_like ?k_like ?a_old_act ?l_old_act ?c_old_act ?k_old_act ?a_line ?l_line ?c_line ?k_line ?a_law ?l_law ?c_law ?k_law ?pg_Script ?hd_Script ?po_Script ?sa_Script ?mk_Script ?kc_Script ?ha_Script ?hm_Script ?n_Script_kept_steps ?pg_OldLine ?hd_OldLine ?po_OldLine ?sa_OldLine ?mk_OldLine ?kc_OldLine ?ha_OldLine ?hm_OldLine ?n_OldLine_number ?n_OldLine_label ?n_OldLine_start ?n_OldLine_moves ?n_OldLine_tie ?n_OldLine_standing ?pg_NewLine ?hd_NewLine ?po_NewLine ?sa_NewLine ?mk_NewLine ?kc_NewLine ?ha_NewLine ?hm_NewLine ?n_NewLine_number ?n_NewLine_label ?n_NewLine_start ?n_NewLine_source ?n_NewLine_moves ?n_NewLine_tie ?n_NewLine_typed ?pg_Ledgers ?hd_Ledgers ?po_Ledgers ?sa_Ledgers ?mk_Ledgers ?kc_Ledgers ?ha_Ledgers ?hm_Ledgers ?n_Ledgers_elder ?n_Ledgers_later ?n_Ledgers_ever ?n_Ledgers_fresh ?n_Ledgers_ahead ?ne_Script_OldLine ?ne_Script_NewLine ?ne_Script_Ledgers ?ne_OldLine_NewLine ?ne_OldLine_Ledgers ?ne_NewLine_Ledgers ?v_STEPS ?w_STEPS_0 ?w_STEPS_13 ?w_STEPS_15 ?w_STEPS_18 ?w_STEPS_21 ?w_STEPS_24 ?w_STEPS_27 ?w_STEPS_30 ?w_STEPS_33 ?w_STEPS_36 ?w_STEPS_39 ?w_STEPS_42 ?w_STEPS_45 ?v_MOST_STEPS ?v_MOST_LABEL ?v_MOST_AMOUNT ?v_MOST_NUMBER ?z_len ?z_isinstance ?z_int ?z_bool ?z_str ?z_tuple ?z_list ?z_all ?z_max ?z_min ?z_abs ?z_range ?z_enumerate
    (case cn => k_is)
    (case ctk => k_is)
    (case nC_Script => k_is)
    (case nC_OldLine => k_is)
    (case nC_NewLine => k_is)
    (case nC_Ledgers => k_is)
    (case a_is_whole => k_is)
    (case l_is_whole => k_is)
    (case c_is_whole => k_is)
    (case k_is_whole => k_is)
    (case a_is_label => k_is)
    (case l_is_label => k_is)
    (case c_is_label => k_is)
    (case k_is_label => k_is)
    (case a_is_amount => k_is)
    (case l_is_amount => k_is)
    (case c_is_amount => k_is)
    (case k_is_amount => k_is)
    (case a_is_number => k_is)
    (case l_is_number => k_is)
    (case c_is_number => k_is)
    (case k_is_number => k_is)
    (case a_is_deed => k_is)
    (case l_is_deed => k_is)
    (case c_is_deed => k_is)
    (case k_is_deed => k_is)
    (case a_OldLine_init => k_is)
    (case i_OldLine_init => k_is)
    (case l_OldLine_init => k_is)
    (case c_OldLine_init => k_is)
    (case k_OldLine_init => k_is)
    (case a_OldLine_row => k_is)
    (case i_OldLine_row => k_is)
    (case l_OldLine_row => k_is)
    (case c_OldLine_row => k_is)
    (case k_OldLine_row => k_is)
    (case a_NewLine_init => k_is)
    (case i_NewLine_init => k_is)
    (case l_NewLine_init => k_is)
    (case c_NewLine_init => k_is)
    (case k_NewLine_init => k_is)
    (case a_NewLine_row => k_is)
    (case i_NewLine_row => k_is)
    (case l_NewLine_row => k_is)
    (case c_NewLine_row => k_is)
    (case k_NewLine_row => k_is)
    (case a_Ledgers_init => k_is)
    (case i_Ledgers_init => k_is)
    (case l_Ledgers_init => k_is)
    (case c_Ledgers_init => k_is)
    (case k_Ledgers_init => k_is)
    (case a_Ledgers_old_line => k_is)
    (case i_Ledgers_old_line => k_is)
    (case l_Ledgers_old_line => k_is)
    (case c_Ledgers_old_line => k_is)
    (case k_Ledgers_old_line => k_is)
    (case a_Ledgers_new_line => k_is)
    (case i_Ledgers_new_line => k_is)
    (case l_Ledgers_new_line => k_is)
    (case c_Ledgers_new_line => k_is)
    (case k_Ledgers_new_line => k_is)
    (case a_Ledgers_rows => k_is)
    (case i_Ledgers_rows => k_is)
    (case l_Ledgers_rows => k_is)
    (case c_Ledgers_rows => k_is)
    (case k_Ledgers_rows => k_is)
    (case a_Ledgers_check => k_is)
    (case i_Ledgers_check => k_is)
    (case l_Ledgers_check => k_is)
    (case c_Ledgers_check => k_is)
    (case k_Ledgers_check => k_is)
    (case a_Ledgers_play_deed => k_is)
    (case i_Ledgers_play_deed => k_is)
    (case l_Ledgers_play_deed => k_is)
    (case c_Ledgers_play_deed => k_is)
    (case k_Ledgers_play_deed => k_is)
    (case a_Ledgers_set_field => k_is)
    (case i_Ledgers_set_field => k_is)
    (case l_Ledgers_set_field => k_is)
    (case c_Ledgers_set_field => k_is)
    (case k_Ledgers_set_field => k_is)
    (case a_Ledgers_write_field => k_is)
    (case i_Ledgers_write_field => k_is)
    (case l_Ledgers_write_field => k_is)
    (case c_Ledgers_write_field => k_is)
    (case k_Ledgers_write_field => k_is)
    (case a_Ledgers_put_line => k_is)
    (case i_Ledgers_put_line => k_is)
    (case l_Ledgers_put_line => k_is)
    (case c_Ledgers_put_line => k_is)
    (case k_Ledgers_put_line => k_is)
    (case a_Ledgers_run => k_is)
    (case i_Ledgers_run => k_is)
    (case l_Ledgers_run => k_is)
    (case c_Ledgers_run => k_is)
    (case k_Ledgers_run => k_is)
    (case a_Ledgers_wrongs => k_is)
    (case i_Ledgers_wrongs => k_is)
    (case l_Ledgers_wrongs => k_is)
    (case c_Ledgers_wrongs => k_is)
    (case k_Ledgers_wrongs => k_is)
    (case a_check_deeds => k_is)
    (case l_check_deeds => k_is)
    (case c_check_deeds => k_is)
    (case k_check_deeds => k_is)
    (case a_played => k_is)
    (case l_played => k_is)
    (case c_played => k_is)
    (case k_played => k_is)
    (case a_play => k_is)
    (case l_play => k_is)
    (case c_play => k_is)
    (case k_play => k_is)
    (case a_faults => k_is)
    (case l_faults => k_is)
    (case c_faults => k_is)
    (case k_faults => k_is)
    (case a_is_step => k_is)
    (case l_is_step => k_is)
    (case c_is_step => k_is)
    (case k_is_step => k_is)
    (case a_Script_init => k_is)
    (case i_Script_init => k_is)
    (case l_Script_init => k_is)
    (case c_Script_init => k_is)
    (case k_Script_init => k_is)
    (case a_Script_steps => k_is)
    (case i_Script_steps => k_is)
    (case l_Script_steps => k_is)
    (case c_Script_steps => k_is)
    (case k_Script_steps => k_is)
    (case a_well => k_is)
    (case l_well => k_is)
    (case c_well => k_is)
    (case k_well => k_is)
    (case a_draw => k_is)
    (case l_draw => k_is)
    (case c_draw => k_is)
    (case k_draw => k_is)
    (case a_label => k_is)
    (case l_label => k_is)
    (case c_label => k_is)
    (case k_label => k_is)
    (case a_amount => k_is)
    (case l_amount => k_is)
    (case c_amount => k_is)
    (case k_amount => k_is)
    (case a_step => k_is)
    (case l_step => k_is)
    (case c_step => k_is)
    (case k_step => k_is)
    (case a_steps => k_is)
    (case l_steps => k_is)
    (case c_steps => k_is)
    (case k_steps => k_is)
    (case a_like => k_is)
    (case l_like => k_is)
    (case c_like => k_is)
    (case k_like => k_is)
    (case a_old_act => k_is)
    (case l_old_act => k_is)
    (case c_old_act => k_is)
    (case k_old_act => k_is)
    (case a_line => k_is)
    (case l_line => k_is)
    (case c_line => k_is)
    (case k_line => k_is)
    (case a_law => k_is)
    (case l_law => k_is)
    (case c_law => k_is)
    (case k_law => k_is)
    (case pg_Script => k_is)
    (case hd_Script => k_is)
    (case po_Script => k_is)
    (case sa_Script => k_is)
    (case mk_Script => k_is)
    (case kc_Script => k_is)
    (case ha_Script => k_is)
    (case hm_Script => k_is)
    (case n_Script_kept_steps => k_is)
    (case pg_OldLine => k_is)
    (case hd_OldLine => k_is)
    (case po_OldLine => k_is)
    (case sa_OldLine => k_is)
    (case mk_OldLine => k_is)
    (case kc_OldLine => k_is)
    (case ha_OldLine => k_is)
    (case hm_OldLine => k_is)
    (case n_OldLine_number => k_is)
    (case n_OldLine_label => k_is)
    (case n_OldLine_start => k_is)
    (case n_OldLine_moves => k_is)
    (case n_OldLine_tie => k_is)
    (case n_OldLine_standing => k_is)
    (case pg_NewLine => k_is)
    (case hd_NewLine => k_is)
    (case po_NewLine => k_is)
    (case sa_NewLine => k_is)
    (case mk_NewLine => k_is)
    (case kc_NewLine => k_is)
    (case ha_NewLine => k_is)
    (case hm_NewLine => k_is)
    (case n_NewLine_number => k_is)
    (case n_NewLine_label => k_is)
    (case n_NewLine_start => k_is)
    (case n_NewLine_source => k_is)
    (case n_NewLine_moves => k_is)
    (case n_NewLine_tie => k_is)
    (case n_NewLine_typed => k_is)
    (case pg_Ledgers => k_is)
    (case hd_Ledgers => k_is)
    (case po_Ledgers => k_is)
    (case sa_Ledgers => k_is)
    (case mk_Ledgers => k_is)
    (case kc_Ledgers => k_is)
    (case ha_Ledgers => k_is)
    (case hm_Ledgers => k_is)
    (case n_Ledgers_elder => k_is)
    (case n_Ledgers_later => k_is)
    (case n_Ledgers_ever => k_is)
    (case n_Ledgers_fresh => k_is)
    (case n_Ledgers_ahead => k_is)
    (case ne_Script_OldLine => decide)
    (case ne_Script_NewLine => decide)
    (case ne_Script_Ledgers => decide)
    (case ne_OldLine_NewLine => decide)
    (case ne_OldLine_Ledgers => decide)
    (case ne_NewLine_Ledgers => decide)
    (case v_STEPS => k_is)
    (case w_STEPS_0 => k_is)
    (case w_STEPS_13 => k_is)
    (case w_STEPS_15 => k_is)
    (case w_STEPS_18 => k_is)
    (case w_STEPS_21 => k_is)
    (case w_STEPS_24 => k_is)
    (case w_STEPS_27 => k_is)
    (case w_STEPS_30 => k_is)
    (case w_STEPS_33 => k_is)
    (case w_STEPS_36 => k_is)
    (case w_STEPS_39 => k_is)
    (case w_STEPS_42 => k_is)
    (case w_STEPS_45 => k_is)
    (case v_MOST_STEPS => k_is)
    (case v_MOST_LABEL => k_is)
    (case v_MOST_AMOUNT => k_is)
    (case v_MOST_NUMBER => k_is)
    (case z_len => k_is)
    (case z_isinstance => k_is)
    (case z_int => k_is)
    (case z_bool => k_is)
    (case z_str => k_is)
    (case z_tuple => k_is)
    (case z_list => k_is)
    (case z_all => k_is)
    (case z_max => k_is)
    (case z_min => k_is)
    (case z_abs => k_is)
    (case z_range => k_is)
    (case z_enumerate => k_is)
