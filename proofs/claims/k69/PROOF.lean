import PyProof.Rows.All
import Wide.All
import OpenK.AllK
import Wide.FinOn
import PyProof.EqAt
import PyProof.EqKinds
import PyProof.TupleCall
import KE.GoesMore
import KE.GoesEnum
import HandS.ForMost
import HandS.Wide
import HandS.Codes
import HandS.Style
import HandS.TupAny
import HandS.IsInst
import HandS.Deep
import HandS.Defaults
import HandS.DictComp
import HandS.NoneIn
import HandS.Iter
import HandS.Star
import HandS.Star
import HandS.Property
import PySem.Challenge.RW_yearturned_k69_calls_by_name
set_option Elab.async false
set_option linter.all false
set_option maxRecDepth 100000
set_option maxHeartbeats 4000000
/-! ### rules that the layer lacks -/
namespace YR
open PySem PySem.SeqAt PyProof.Rows
open AutoSeq1 (wpAny_loadPart')
theorem typeCall_enum1 (a : Addr) : True := True.intro
set_option maxHeartbeats 1000000 in
theorem meets_enum_newT (l : Addr) (items : Array Value) :
    Meets (Builtin.«enumerate.__new__» ⟨[.type "enumerate", .ref l], []⟩) (fun _ R s => s.heap.IsTuple l items ∧
      R (.ok (.ret (.ref (s.heap.push { cls := .type "tuple_iterator", data := .fields #[.ref l, .int 0 0] }).objs.size)))
        { s with heap := (s.heap.push { cls := .type "tuple_iterator", data := .fields #[.ref l, .int 0 0] }).push { cls := .type "enumerate", data := .fields #[.none, .bool false, .ref s.heap.objs.size, rawInt 0, .none, .none] } }) :=
  .of_wp fun prog w A R s h => by
    obtain ⟨hp, g, d, tk, os⟩ := s; obtain ⟨h1, h⟩ := h
    have hsub := sub_enumerate
    have q1 : ∀ {A' : Around} {E : Value → Shared → Prop} {Q : Value → Shared → Prop}, Q (.ref hp.objs.size) ⟨hp.push { cls := .type "tuple_iterator", data := .fields #[.ref l, .int 0 0] }, g, d, tk, os⟩ → wpAny (model prog w) A' (pyIter (.ref l)) Q E ⟨hp, g, d, tk, os⟩ :=
      fun q => wpAny_pyIter_tuple (s := ⟨hp, g, d, tk, os⟩) h1 q
    wp_walk using q1
    refine wpAny_stack_any fun st => wpAny_pure ?_
    split
    · rename_i c _ _ _ _ _
      cases (c == Value.type "enumerate")
      · wp_walk using q1
        exact ⟨_, rfl, h⟩
      · wp_walk using q1
        exact ⟨_, rfl, h⟩
    · wp_walk using q1
      exact ⟨_, rfl, h⟩
section
variable {prog : Program} {w : World} {A : Around} {E : Value → Shared → Prop} {s : Shared}
theorem call_enumerate_tuple {l : Addr} {items : Array Value} {Q : Value → Shared → Prop} (hL : s.heap.IsTuple l items)
    (h : ∀ h', IsEnum h' (s.heap.objs.size + 1) s.heap.objs.size 0 .none → h'.IsTupleIter s.heap.objs.size l 0 → h'.objs.size = s.heap.objs.size + 2 →
      (∀ b o, s.heap.get? b = some o → h'.get? b = some o) → Q (.ref (s.heap.objs.size + 1)) { s with heap := h' }) :
    wpAny (model prog w) A (call (.type "enumerate") [.ref l]) Q E s := by
  refine callType_new F.called_enumerate (by decide) (F.typeCall_enumerate_1 _) (F.newCall_enumerate_1 _) (fun obj => F.args_object_init_2 obj _) F.entry_enumerate_new
    (meets_enum_newT l items) ⟨hL, ?_⟩
  have hz : (s.heap.push { cls := .type "tuple_iterator", data := .fields #[.ref l, .int 0 0] }).objs.size = s.heap.objs.size + 1 := Heap.size_push ..
  show _ ∧ _
  rw [hz]
  have he : IsEnum ((s.heap.push { cls := .type "tuple_iterator", data := .fields #[.ref l, .int 0 0] }).push { cls := .type "enumerate", data := .fields #[.none, .bool false, .ref s.heap.objs.size, rawInt 0, .none, .none] }) (s.heap.objs.size + 1) s.heap.objs.size 0 .none := by
    have := Heap.get?_push_size (s.heap.push { cls := .type "tuple_iterator", data := .fields #[.ref l, .int 0 0] }) (o := { cls := .type "enumerate", data := .fields #[.none, .bool false, .ref s.heap.objs.size, rawInt 0, .none, .none] }) rfl
    rw [hz] at this; exact this
  refine ⟨⟨_, he, rfl⟩, h _ he ⟨_, Heap.get?_push_of_some _ (Heap.get?_push_size _ rfl), rfl, rfl⟩ (by rw [Heap.size_push, hz]) fun b o x => Heap.get?_push_of_some _ (Heap.get?_push_of_some _ x)⟩
end
end YR
namespace L2
open PySem PySem.Spec PyProof.Rows
/-! ### ** of great ints -/
def CPowW (i j : Int) : Prop := 0 ≤ j ∧ ((i.natAbs.log2 : Int) + 1) * j ≤ 2 ^ 27
section
variable {X : Cx}
theorem op_powW : OpR X (binaryOp .Pow) (rI CPowW fun i j => .int (i ^ j.toNat)) := opI fun i j _ _ _ _ _ hc q => by
  refine PyProof.Rows.pow_int hc.1 ?_ q
  have h1 : (Builtin.Int.intBits i : Int) ≤ (i.natAbs.log2 : Int) + 1 := by
    unfold Builtin.Int.intBits
    split <;> omega
  exact Int.le_trans (Int.mul_le_mul_of_nonneg_right h1 hc.1) hc.2
end
theorem powW {i j : Int} {a : Nat} (h : i.natAbs < 2 ^ a) (h0 : 0 < a) (hj : 0 ≤ j) (hz : (a : Int) * j ≤ 2 ^ 27) : CPowW i j := by
  refine ⟨hj, ?_⟩
  have x := PySem.Flt.log2_lt_of h0 h
  have y : ((i.natAbs.log2 : Int) + 1) ≤ (a : Int) := by omega
  exact Int.le_trans (Int.mul_le_mul_of_nonneg_right y hj) hz
/-! ### x in a tuple of data -/
section
variable {X : Cx}
def rInTD (K : PySem.W.Frag) : R2 := fun x y H Q => ∃ d ds, Dp K H x d ∧ Dp K H y (.tuple ds) ∧ SeqAt.shaped d = true ∧ SeqAt.shaped (.tuple ds) = true ∧ Q (.bl (ds.any fun z => PyData.eqv z d)) H
def rNotInTD (K : PySem.W.Frag) : R2 := fun x y H Q => ∃ d ds, Dp K H x d ∧ Dp K H y (.tuple ds) ∧ SeqAt.shaped d = true ∧ SeqAt.shaped (.tuple ds) = true ∧ Q (.bl (!ds.any fun z => PyData.eqv z d)) H
theorem op_inTD (hu : X.A.units + 65 < cLine) : OpR X (compareOp .In) (rInTD X.K) := by
  intro pins s σ H x y v u Q I rx ry h
  obtain ⟨d, ds, hd, he, sd, se, q⟩ := h
  obtain ⟨as, r1⟩ := Dp.reads I d x v hd rx
  obtain ⟨bs, r2⟩ := Dp.reads I (.tuple ds) y u he ry
  exact SeqAt.in_tuple_reads r2 r1 (SeqAt.canLay_of_shaped se) (SeqAt.canLay_of_shaped sd) (room_in_shaped sd hu) ⟨.bl _, H, I, rfl, q⟩
theorem op_notInTD (hu : X.A.units + 65 < cLine) : OpR X (compareOp .NotIn) (rNotInTD X.K) := by
  intro pins s σ H x y v u Q I rx ry h
  obtain ⟨d, ds, hd, he, sd, se, q⟩ := h
  obtain ⟨as, r1⟩ := Dp.reads I d x v hd rx
  obtain ⟨bs, r2⟩ := Dp.reads I (.tuple ds) y u he ry
  exact SeqAt.notIn_tuple_reads r2 r1 (SeqAt.canLay_of_shaped se) (SeqAt.canLay_of_shaped sd) (room_in_shaped sd hu) ⟨.bl _, H, I, rfl, q⟩
end
/-! ### enumerate(tuple) -/
def IteT (K : PySem.W.Frag) (a : Addr) : It :=
  ⟨fun i H => ∃ (xs : List V) (x : V), SqT K H a xs ∧ xs[i]? = some x, fun i H v H' => ∃ T x, v = .ref T ∧ H T = none ∧ H' = upd H T (.tup [.int (i : Nat), x]) ∧ ∀ xs, SqT K H a xs → xs[i]? = some x, fun i H => ∃ xs : List V, SqT K H a xs ∧ xs.length = i⟩
theorem turn_enumT {P : Program} {w : World} {K : PySem.W.Frag} {elts : List Expr} {kk : Nat} {tpos : Pos} (a e it : Addr) :
    Turn P w K (.Tuple elts kk tpos) (IteT K a) [e, it] e (fun i h => (∃ old, IsEnum h e it ((i : Nat) : Int) old) ∧ h.IsTupleIter it a i ∧ e ≠ it) where
  mem := by simp
  obj := fun i h st b hb => by
    obtain ⟨⟨old, he⟩, ⟨o, ho, hc, hd⟩, _⟩ := st
    have e' : b = e ∨ b = it := by simpa using hb
    rcases e' with z | z
    · rw [z]; exact ⟨_, he, fun v q => nomatch q⟩
    · rw [z]; exact ⟨o, ho, fun v q => by rw [hd] at q; cases q⟩
  keep := fun i h h' st k => let ⟨⟨old, he⟩, hi, hne⟩ := st; ⟨⟨old, k e (by simp) _ he⟩, hi.at fun o q => k it (by simp) o q, hne⟩
  item := by
    intro X hP hw hK hc i pins s σ H E I hf st hg
    subst hP hw hK
    obtain ⟨⟨old, he⟩, hit, hne⟩ := st
    obtain ⟨xs, x, hq, hx⟩ := hg
    obtain ⟨its, rv, p, hz⟩ := I.tuple hq
    obtain ⟨u, hu, ru⟩ := rv.get hx
    have hel : e < s.heap.objs.size := Heap.lt_size he
    have hil : it < s.heap.objs.size := by obtain ⟨_, q, _⟩ := hit; exact Heap.lt_size q
    have hta : a ≠ it := by
      rintro rfl
      obtain ⟨o1, q1, q2, _⟩ := hit
      obtain ⟨o2, q3, q4, _⟩ := p
      rw [q1] at q3; cases q3
      rw [q2] at q4; simp at q4
    have hea : e ∉ [it, a] := by
      intro hb
      rcases List.mem_cons.mp hb with z | z
      · exact hne z
      · have z' : e = a := by simpa using z
        subst z'
        obtain ⟨o2, q3, q4, _⟩ := p
        rw [he] at q3; cases q3
        simp at q4
    have his : i < its.toArray.size := by
      have := (List.getElem?_eq_some_iff.mp hu).1
      simpa using this
    refine wpAny_pyNext_enum_itemD (Draws.tuple (show X.A.in1.handled = none from I.ok.hd hc) it a hta its.toArray) he ⟨hit, p⟩ his hne hea fun y h' tk hy ho hst hT hsz hk => ?_
    have ey : y = u := by
      have q1 : its.toArray[i]? = some y := hy
      have q2 : its.toArray[i]? = some u := by simpa using hu
      rw [q1] at q2; exact Option.some.inj q2
    subst ey
    refine ⟨_, rfl, wpAny_letOwnedTupleGo_enum (s := { s with heap := h', toks := tk + 1 }) ho fun h'' he' sb => ?_⟩
    have hT2 : h''.get? s.heap.objs.size = some { cls := .type "tuple", data := .seq #[.int i tk, y] } := (sb.2 _ (Nat.ne_of_gt hel)).trans hT
    have new : ObjOk X.prog X.w (upd H s.heap.objs.size (.tup [.int (i : Nat), x])) h'' s.heap.objs.size (.tup [.int (i : Nat), x]) :=
      ⟨by show 2 ≤ sizeLine; decide, [.int i tk, y], .cons ⟨_, rfl⟩ (.cons ru .nil), ⟨_, hT2, rfl, _, rfl⟩⟩
    have I1 : Inv X pins σ (upd H s.heap.objs.size (.tup [.int (i : Nat), x])) { s with heap := h'', toks := tk + 1 } :=
      I.turnedNew (ch := [e, it]) (fun b ob hb q => (sb.2 b (fun z => hb (by simp [z]))).trans (hk b ob (fun z => hb (by simp [z])) (fun z => hb (by simp [z])) q)) hf (Nat.le_refl _) new
    refine ⟨.ref s.heap.objs.size, _, I1, rfl, ⟨_, x, rfl, I.hok.fresh (Nat.le_refl _), rfl, fun ys hy => by rw [I.tuple_inj hy hq]; exact hx⟩, ⟨⟨y, ?_⟩, hst.1.at fun o q => (sb.2 it (Ne.symm hne)).trans q, hne⟩, fun b hb => ?_⟩
    · have e1 : ((i + 1 : Nat) : Int) = (i : Int) + 1 := by omega
      rw [e1]; exact he'
    · have hb' : b < s.heap.objs.size := by
        have e' : b = e ∨ b = it := by simpa using hb
        rcases e' with z | z
        · rw [z]; exact hel
        · rw [z]; exact hil
      rw [upd_ne (Nat.ne_of_lt hb')]
      exact (hf b hb).1
  done := by
    intro X hP hw hK hc i pins s σ H E I hf st hg
    subst hP hw hK
    obtain ⟨⟨old, he⟩, hit, hne⟩ := st
    obtain ⟨xs, hq, hx⟩ := hg
    obtain ⟨its, rv, p, hz⟩ := I.tuple hq
    obtain ⟨f0, f1, f2, f3, f4, f5⟩ := hf it (by simp)
    have hl := rv.length
    have hta : a ≠ it := by
      rintro rfl
      obtain ⟨o1, q1, q2, _⟩ := hit
      obtain ⟨o2, q3, q4, _⟩ := p
      rw [q1] at q3; cases q3
      rw [q2] at q4; simp at q4
    have D := Draws.tuple (prog := X.prog) (w := X.w) (show X.A.in1.handled = none from I.ok.hd hc) it a hta its.toArray
    have hit' : s.heap.IsTupleIter it a its.toArray.size := by
      have z : its.toArray.size = i := by simp; omega
      rw [z]; exact hit
    exact wpAny_pyNext_enum_endD D he ⟨hit', p⟩ fun h' eb => ⟨rfl, I.turned (t' := s.toks) (fun b o hb q => eb b o hb q) f0 f1 f3 f4 f5⟩
  self := fun A i s Q E st h => let ⟨⟨_, he⟩, _⟩ := st; wpAny_pyIter_enum he h
def iEnumT (K : PySem.W.Frag) (ta : TA) : TI := fun σ H R => ta σ H fun vs H1 => ∃ a xs, vs = [.ref a] ∧ SqT K H1 a xs ∧ R (IteT K a) H1
theorem pi_enumT {X : Cx} {e : Expr} {ta : TA} {p pos tpos : Pos} {elts : List Expr} {kk : Nat} (hg : Gl X "enumerate") (hm : X.mg "enumerate" = none) (ha : PA X [e] ta) (hs : starEach [e] X.env = [(false, eval e X.env)] := by rfl) :
    PI X (.Tuple elts kk tpos) (.Call (.Name "enumerate" p) [e] [] pos) (iEnumT X.K ta) := by
  refine ⟨fun pins s σ H R I h => ?_⟩
  refine Call_ (ld_blt I hg hm boot_enumerate (PyProof.Rows.callWith_type1 (thn (ha.run pos pins s σ H _ I h) fun us s1 ⟨vs, H1, I1, r1, q1⟩ => ?_) hs rfl))
  obtain ⟨a, xs, ex, hq, q⟩ := q1
  subst ex
  cases r1 with
  | cons r rr =>
    cases rr
    cases r
    obtain ⟨its, rv, p', hz⟩ := I1.tuple hq
    refine YR.call_enumerate_tuple (show s1.heap.IsTuple a its.toArray from p') fun h' he hit hsz hk => wpAny_pyIter_enum he ?_
    have I2 : Inv X pins σ H1 { s1 with heap := h' } := I1.kept (t' := s1.toks) hk
    refine ⟨s1.heap.objs.size + 1, [s1.heap.objs.size + 1, s1.heap.objs.size], _, _, H1, rfl, I2, turn_enumT a (s1.heap.objs.size + 1) s1.heap.objs.size, ⟨⟨.none, he⟩, hit, Nat.succ_ne_self _⟩, fun b hb => ?_, q⟩
    have e' : b = s1.heap.objs.size + 1 ∨ b = s1.heap.objs.size := by simpa using hb
    have hle : s1.heap.objs.size ≤ b := by
      rcases e' with z | z
      · rw [z]; exact Nat.le_add_right _ _
      · rw [z]; exact Nat.le_refl _
    exact I1.fpOk hle (I1.hok.fresh hle)
theorem for_enumT {K : PySem.W.Frag} {a : Addr} {xs : List V} {g : TG} {tb : TS} {D : Ends} {σ : St} {H : Hp} (Pv : Nat → St → Hp → Prop) (h0 : Pv 0 σ H) (hl : ∀ i σ H, i ≤ xs.length → Pv i σ H → SqT K H a xs)
    (hs : ∀ i x T σ H, xs[i]? = some x → Pv i σ H → H T = none → g (.ref T) σ (upd H T (.tup [.int (i : Nat), x])) fun σ2 H2 => tb { D with nx := Pv (i + 1), ct := Pv (i + 1), bk := D.nx } σ2 H2) (hd : ∀ σ H, Pv xs.length σ H → D.nx σ H) :
    ∃ W : Nat → Nat → St → Hp → Prop, (∃ m, W 0 m σ H) ∧ ∀ i m σ H, W i m σ H →
      ((IteT K a).stop i H ∧ D.nx σ H) ∨ ((IteT K a).go i H ∧ ∃ N : St → Hp → Prop, (∀ σ' H', N σ' H' → ∃ m', m' < m ∧ W (i + 1) m' σ' H') ∧ ∀ x H', (IteT K a).yld i H x H' → g x σ H' fun σ2 H2 => tb { D with nx := N, ct := N, bk := D.nx } σ2 H2) := by
  refine ⟨fun i m σ H => m = xs.length - i ∧ i ≤ xs.length ∧ Pv i σ H, ⟨xs.length, by simp, Nat.zero_le _, h0⟩, ?_⟩
  rintro i m σ H ⟨rfl, hi, p⟩
  have q := hl i σ H hi p
  by_cases hlt : i < xs.length
  · refine .inr ⟨⟨xs, xs[i], q, by simp [hlt]⟩, Pv (i + 1), fun σ' H' p' => ⟨xs.length - (i + 1), by omega, rfl, hlt, p'⟩, fun x H' y => ?_⟩
    obtain ⟨T, x', rfl, hT, rfl, hx⟩ := y
    exact hs i x' T σ H (hx xs q) p hT
  · have e : i = xs.length := by omega
    subst e
    exact .inl ⟨⟨xs, q, rfl⟩, hd σ H p⟩
/-! ### len(o), o[i], x in o by the class's own defs -/
section
variable {X : Cx} {CX : CXT} {k : Nat} {f C : Addr} {fd : FuncData} {ps : List Str} {sp : Sp} {E : XK}
theorem run_in1 {pins : List (Addr × Obj)} {σ : St} {H : Hp} {s : Shared} {Q : VK} {us : List Value} {vs : List V} (F : FnOk X.prog X.w X.K X.mg X.base CX k f fd ps sp) (hr : Room (k + 1) X.A) (hb : Binds X.K fd ps []) (hx : Passes CX X E)
    (I : Inv X pins σ H s) (r : Vals vs us) (h : sp vs H Q E) : wpAny (model X.prog X.w) X.A.in1 (call (.ref f) us) (EP X pins σ Q) X.xe s := by
  have hl : us.length = ps.length := by rw [← r.length]; exact F.len _ _ _ _ h
  refine wpAny_call (codeAny_mono (F.run X.A.in1 X.stack s H ⟨us, []⟩ us vs Q E hr.in1 I.env0.in1 (by have q := hb s us I.kIn (by simpa using hl); simpa using q) r h) fun r s' hq => ?_)
  cases r with
  | error e => exact hx pins σ H s e s' I hq
  | ok fl =>
    cases fl with
    | ret u => exact I.after hq
    | next => exact False.elim hq
    | brk => exact False.elim hq
    | cont => exact False.elim hq
theorem ins_at {pins : List (Addr × Obj)} {σ : St} {H : Hp} {s : Shared} {a dx : Addr} {fs : List (Str × V)} (I : Inv X pins σ H s) (e : H a = some (.ins C dx fs)) : ∃ od, PySem.W.InstAt s.heap a (PySem.W.instObj C dx) C (some od) := by
  obtain ⟨mA, O, _⟩ := ins_get I.hok e
  obtain ⟨od, J, _⟩ := O.look
  exact ⟨od, J⟩
/-- what a class says of one of its special defs -/
structure Spc (K : PySem.W.Frag) (C : Addr) (m : Str) (f : Addr) : Prop where
  at_ : PySem.W.findIn K (.ref C) m = some (some (.ref f))
  fn : PySem.W.isFn K (.ref f) = true
def rLenO (C : Addr) (sp : Sp) (E : XK) : List V → Hp → VK → Prop := fun xs H Q => ∃ a dx fs, xs = [.ref a] ∧ H a = some (.ins C dx fs) ∧ sp [.ref a] H (fun v H' => ∃ n : Int, v = .int n ∧ 0 ≤ n ∧ n < 2 ^ 63 ∧ Q (.int n) H') E
theorem call_lenO (hs : Spc X.K C "__len__" f) (F : FnOk X.prog X.w X.K X.mg X.base CX k f fd ps sp) (hr : Room (k + 1) X.A) (hb : Binds X.K fd ps []) (hx : Passes CX X E) : CallR X (.builtin "len") (rLenO C sp E) := by
  intro pins s σ H xs us Q I r h
  obtain ⟨a, dx, fs, rfl, e, h⟩ := h
  obtain ⟨u, rfl, ru⟩ := vals1 r
  cases ru
  obtain ⟨od, J⟩ := ins_at I e
  obtain ⟨m, F0⟩ := I.fr
  refine PySem.W.len_K F0 I.ok.mod.kin J hs.at_ hs.fn (wpAny_mono (run_in1 F hr hb hx I (vs := [.ref a]) (.cons rfl .nil) h) (fun v s' q => ?_) fun _ _ z => z)
  obtain ⟨v', H', I', rv, n, rfl, h0, h1, q⟩ := q
  obtain ⟨t, rfl⟩ := rv
  exact ⟨⟨h0, h1⟩, .int n, H', I'.tok _, ⟨_, rfl⟩, q⟩
theorem op_inO (hs : Spc X.K C "__contains__" f) (F : FnOk X.prog X.w X.K X.mg X.base CX k f fd ps sp) (hr : Room k X.A) (hb : Binds X.K fd ps []) (hx : Passes CX X E) :
    OpR X (compareOp .In) (fun x y H Q => ∃ a dx fs, y = .ref a ∧ H a = some (.ins C dx fs) ∧ sp [.ref a, x] H (fun v H' => ∃ b, v = .bl b ∧ Q (.bl b) H') E) := by
  intro pins s σ H x y v u Q I rx ry h
  obtain ⟨a, dx, fs, rfl, e, h⟩ := h
  cases ry
  obtain ⟨od, J⟩ := ins_at I e
  obtain ⟨m, F0⟩ := I.fr
  refine PySem.W.in_K F0 I.ok.mod.kin J hs.at_ hs.fn (wpAny_mono (run_fn F hr hb .nil hx I (vs := [.ref a, x]) (us := [.ref a, v]) (.cons rfl (.cons rx .nil)) h) (fun v s' q => ?_) fun _ _ z => z)
  obtain ⟨v', H', I', rv, b, rfl, q⟩ := q
  cases rv
  exact wpAny_truthy_bool ⟨.bl b, H', I', rfl, q⟩
def rIxO (C : Addr) (sp : Sp) (E : XK) : R2 := fun x y H Q => ∃ a dx fs, x = .ref a ∧ H a = some (.ins C dx fs) ∧ sp [.ref a, y] H Q E
theorem pe_ixO {a b : Expr} {ta tb : TE} {pos : Pos} (hs : Spc X.K C "__getitem__" f) (hf : PySem.W.fnIn X.K f = true) (F : FnOk X.prog X.w X.K X.mg X.base CX k f fd ps sp) (hr : Room (k + 1) X.A) (hb : Binds X.K fd ps []) (hx : Passes CX X E)
    (ha : PE X a ta) (hb' : PE X b tb) (hsl : ∀ o i, subscripted b true o i = runValue (.builtin "lifetime.subscript" ⟨[o, i], []⟩)) : PE X (.Subscript a b pos) (tOp (rIxO C sp E) ta tb) := by
  refine ⟨fun pins s σ H Q I h => ?_⟩
  refine Subscript_ (binT ha hb' I h fun v u s2 x y H2 I2 rx ry q => ?_)
  obtain ⟨o, dx, fs, rfl, e, h⟩ := q
  cases rx
  obtain ⟨od, J⟩ := ins_at I2 e
  obtain ⟨m, F0⟩ := I2.fr
  exact PySem.W.sub_K F0 I2.ok.mod.kin J hs.at_ hf hs.fn (run_in1 F hr hb hx I2 (vs := [.ref o, y]) (us := [.ref o, u]) (.cons rfl (.cons ry .nil)) h) (hsl _ _)
/-- the program's own def stands there -/
theorem Fun.fnIn {K : PySem.W.Frag} {x qual : Str} {st : Stmt} {f : Addr} {fd : FuncData} (F : Fun K x qual st f fd) : PySem.W.fnIn K f = true := by
  obtain ⟨oc, od, kV, doc, pm, an, cdv, ct, osl, rfl, lk, hcd⟩ := F.ex
  unfold PySem.W.fnIn
  rw [lk] <;> rfl
end
end L2

namespace L2
open PySem PySem.Spec PyProof.Rows
theorem hu65 {k : Nat} {A : Around} (hr : Room k A) : A.units + 65 < cLine := by have := hr.un; omega
structure InsI (K : PySem.W.Frag) (C : Addr) : Prop where
  cl : Cls K C
  ha : PySem.W.findIn K (.ref C) "__class__" = some (some (.builtin "object.__class__"))
  hn : PySem.W.specialIn K (.builtin "object.__class__") "__get__" = some (some (.builtin "getset_descriptor.__get__"))
  htk : PySem.W.takesIn K (.builtin "object.__class__") = some true
  hm : PySem.W.mroIn K C (.type "object") = some true
theorem kit_self {K : PySem.W.Frag} {C : Addr} : PySem.W.kitOne K (.ref C) (.ref C) = some true := by
  unfold PySem.W.kitOne
  rw [if_pos (by simp)]
theorem InsI.ty {K : PySem.W.Frag} {H : Hp} {a C dx : Addr} {fs : List (Str × V)} (i : InsI K C) (e : H a = some (.ins C dx fs)) : TyX K H (.ref a) (.ref C) := .base (.ins e i.cl i.ha i.hn i.htk i.hm)
/-! ### heaps that have grown; one list changed -/
section
variable {K : PySem.W.Frag} {H H' H1 H2 : Hp} {a p : Addr} {o u : HO} {xs ys : List V} {v : V} {d : PyData} {ds : List PyData}
theorem Same.new (h : H p = none) : Same H (upd H p o) := fun b w e => by rw [upd_ne (ne_of_none e h)]; exact e
theorem Same.add (s : Same H H1) (h : H1 p = none) : Same H (upd H1 p o) := s.trans (Same.new h)
theorem Same.mut (s : Same H H1) (h : H p = none) : Same H (upd H1 p o) := fun b w e => by rw [upd_ne (ne_of_none e h)]; exact s b w e
theorem Same.rd (s : Same H H') (h : Rd H a u) : Rd H' a u := by
  rcases h with h | ⟨o, h⟩
  · exact .inl (s _ _ h)
  · exact .inr ⟨o, s _ _ h⟩
theorem Same.sqT (s : Same H H') (h : SqT K H a xs) : SqT K H' a xs := by
  rcases h with h | h
  · exact .inl (s.rd h)
  · exact .inr h
mutual
theorem Same.dp (s : Same H H') : ∀ {d : PyData} {v : V}, Dp K H v d → Dp K H' v d
  | _, _, .non => .non
  | _, _, .bl b => .bl b
  | _, _, .int i => .int i
  | _, _, .str x => .str x
  | _, _, .lst h1 h2 => .lst (s.seq h1) (Same.dpAll s h2)
  | _, _, .tup h1 h2 => .tup (s.sqT h1) (Same.dpAll s h2)
theorem Same.dpAll (s : Same H H') : ∀ {ds : List PyData} {vs : List V}, DpAll K H vs ds → DpAll K H' vs ds
  | _, _, .nil => .nil
  | _, _, .cons h1 h2 => .cons (Same.dp s h1) (Same.dpAll s h2)
end
/-! no lists within -/
mutual
def imm : PyData → Bool
  | .tuple xs => immAll xs
  | .list _ => false
  | .dict _ => false
  | _ => true
def immAll : List PyData → Bool
  | [] => true
  | d :: ds => imm d && immAll ds
end
/-- the tuples stand -/
def Tups (H H' : Hp) : Prop := (∀ a xs, H a = some (.tup xs) → H' a = some (.tup xs)) ∧ ∀ a o xs, H a = some (.frz o (.tup xs)) → H' a = some (.frz o (.tup xs))
theorem Tups.refl (H : Hp) : Tups H H := ⟨fun _ _ h => h, fun _ _ _ h => h⟩
theorem Tups.trans (a : Tups H H1) (b : Tups H1 H2) : Tups H H2 := ⟨fun x y h => b.1 x y (a.1 x y h), fun x y z h => b.2 x y z (a.2 x y z h)⟩
theorem Same.tups (s : Same H H') : Tups H H' := ⟨fun a xs h => s _ _ h, fun a o xs h => s _ _ h⟩
theorem Tups.mut (h : Mut (H p)) : Tups H (upd H p o) := by
  refine ⟨fun b xs e => ?_, fun b u xs e => ?_⟩
  · rw [upd_ne]
    · exact e
    · rintro rfl; rw [e] at h; exact h
  · rw [upd_ne]
    · exact e
    · rintro rfl; rw [e] at h; exact h
theorem Tups.sqT (s : Tups H H') (h : SqT K H a xs) : SqT K H' a xs := by
  rcases h with (h | ⟨o, h⟩) | h
  · exact .inl (.inl (s.1 _ _ h))
  · exact .inl (.inr ⟨o, s.2 _ _ _ h⟩)
  · exact .inr h
mutual
theorem Tups.dp (s : Tups H H') : ∀ {d : PyData} {v : V}, imm d = true → Dp K H v d → Dp K H' v d
  | _, _, _, .non => .non
  | _, _, _, .bl b => .bl b
  | _, _, _, .int i => .int i
  | _, _, _, .str x => .str x
  | _, _, q, .lst h1 h2 => by simp [imm] at q
  | _, _, q, .tup h1 h2 => .tup (s.sqT h1) (Tups.dpAll s (by simpa [imm] using q) h2)
theorem Tups.dpAll (s : Tups H H') : ∀ {ds : List PyData} {vs : List V}, immAll ds = true → DpAll K H vs ds → DpAll K H' vs ds
  | _, _, _, .nil => .nil
  | _, _, q, .cons h1 h2 => .cons (Tups.dp s (by simp only [immAll, Bool.and_eq_true] at q; exact q.1) h1) (Tups.dpAll s (by simp only [immAll, Bool.and_eq_true] at q; exact q.2) h2)
end
/-- all but p stands as it stood, and the tuples -/
structure But (p : Addr) (H H' : Hp) : Prop where
  keep : ∀ b o, H b = some o → b ≠ p → H' b = some o
  tups : Tups H H'
theorem But.refl (p : Addr) (H : Hp) : But p H H := ⟨fun _ _ h _ => h, Tups.refl H⟩
theorem But.trans (a : But p H H1) (b : But p H1 H2) : But p H H2 := ⟨fun x y h n => b.keep x y (a.keep x y h n) n, a.tups.trans b.tups⟩
theorem Same.but (s : Same H H') : But p H H' := ⟨fun b o h _ => s b o h, s.tups⟩
theorem But.mut (h : Mut (H p)) : But p H (upd H p o) := ⟨fun b u e n => by rw [upd_ne n]; exact e, Tups.mut h⟩
theorem But.new {f : Addr} (b : But p H H1) (h : H f = none) (hm : H1 f = none ∨ Mut (H1 f)) : But p H (upd H1 f o) :=
  ⟨fun c u e n => by rw [upd_ne (ne_of_none e h)]; exact b.keep c u e n, b.tups.trans (hm.elim (fun h => (Same.new h).tups) Tups.mut)⟩
theorem But.free (b : But p H H1) (hp : p ≠ a) (h : H1 a = none) : H a = none := by
  cases e : H a with
  | none => rfl
  | some o => rw [b.keep a o e (Ne.symm hp)] at h; cases h
theorem But.same (s : Same H H1) (b : But p H1 H2) (h : H p = none) : Same H H2 := fun a o e => b.keep a o (s a o e) (ne_of_none e h)
theorem But.dp (b : But p H H') (hi : imm d = true) (h : Dp K H v d) : Dp K H' v d := b.tups.dp hi h
theorem But.dpAll {vs : List V} (b : But p H H') (hi : immAll ds = true) (h : DpAll K H vs ds) : DpAll K H' vs ds := b.tups.dpAll hi h
/-! ### data -/
theorem Dp.int_inv {i : Int} (h : Dp K H v (.int i)) : v = .int i := by cases h; rfl
theorem Dp.str_inv {i : Str} (h : Dp K H v (.str i)) : v = .str i := by cases h; rfl
theorem Dp.bl_inv {i : Bool} (h : Dp K H v (.bool i)) : v = .bl i := by cases h; rfl
theorem Dp.non_inv (h : Dp K H v .none) : v = .non := by cases h; rfl
theorem Dp.tup_inv (h : Dp K H v (.tuple ds)) : ∃ a xs, v = .ref a ∧ SqT K H a xs ∧ DpAll K H xs ds := by
  cases h with
  | tup h1 h2 => exact ⟨_, _, rfl, h1, h2⟩
theorem Dp.lst_inv (h : Dp K H v (.list ds)) : ∃ a xs, v = .ref a ∧ SqL K H a xs ∧ DpAll K H xs ds := by
  cases h with
  | lst h1 h2 => exact ⟨_, _, rfl, h1, h2⟩
theorem DpAll.length : ∀ {xs : List V} {ds : List PyData}, DpAll K H xs ds → xs.length = ds.length
  | _, _, .nil => rfl
  | _, _, .cons _ h => by rw [List.length_cons, List.length_cons, DpAll.length h]
theorem DpAll.get : ∀ {xs : List V} {ds : List PyData} {i : Nat} {d : PyData}, DpAll K H xs ds → ds[i]? = some d → ∃ v, xs[i]? = some v ∧ Dp K H v d
  | _, _, _, _, .nil, e => by simp at e
  | _, _, 0, _, .cons h _, e => by simp at e; subst e; exact ⟨_, rfl, h⟩
  | _, _, i + 1, d, .cons _ t, e => by
    obtain ⟨v, h1, h2⟩ := DpAll.get (i := i) (d := d) t (by simpa using e)
    exact ⟨v, by simpa using h1, h2⟩
theorem DpAll.get' : ∀ {xs : List V} {ds : List PyData} {i : Nat} {v : V}, DpAll K H xs ds → xs[i]? = some v → ∃ d, ds[i]? = some d ∧ Dp K H v d
  | _, _, _, _, .nil, e => by simp at e
  | _, _, 0, _, .cons h _, e => by simp at e; subst e; exact ⟨_, rfl, h⟩
  | _, _, i + 1, v, .cons _ t, e => by
    obtain ⟨d, h1, h2⟩ := DpAll.get' (i := i) (v := v) t (by simpa using e)
    exact ⟨d, by simpa using h1, h2⟩
theorem DpAll.append : ∀ {xs ys : List V} {ds es : List PyData}, DpAll K H xs ds → DpAll K H ys es → DpAll K H (xs ++ ys) (ds ++ es)
  | _, _, _, _, .nil, h => h
  | _, _, _, _, .cons h t, h' => .cons h (DpAll.append t h')
theorem DpAll.take : ∀ {xs : List V} {ds : List PyData} (n : Nat), DpAll K H xs ds → DpAll K H (xs.take n) (ds.take n)
  | _, _, 0, _ => .nil
  | _, _, _ + 1, .nil => .nil
  | _, _, n + 1, .cons r t => .cons r (DpAll.take n t)
theorem DpAll.drop : ∀ {xs : List V} {ds : List PyData} (n : Nat), DpAll K H xs ds → DpAll K H (xs.drop n) (ds.drop n)
  | _, _, 0, r => r
  | _, _, _ + 1, .nil => .nil
  | _, _, n + 1, .cons _ t => DpAll.drop n t
theorem DpAll.one (h : Dp K H v d) : DpAll K H [v] [d] := .cons h .nil
theorem DpAll.inv1 (h : DpAll K H xs [d]) : ∃ v, xs = [v] ∧ Dp K H v d := by
  cases h with
  | cons h t => cases t; exact ⟨_, rfl, h⟩
theorem Dp.tupOf (h : H a = some (.tup xs)) (hd : DpAll K H xs ds) : Dp K H (.ref a) (.tuple ds) := .tup (SqT.of h) hd
theorem Dp.lstOf (h : H a = some (.lst xs)) (hd : DpAll K H xs ds) : Dp K H (.ref a) (.list ds) := .lst (SqL.of h) hd
/-! ### types of data -/
def tyD : PyData → String
  | .none => "NoneType"
  | .bool _ => "bool"
  | .int _ => "int"
  | .str _ => "str"
  | .list _ => "list"
  | .tuple _ => "tuple"
  | .dict _ => "dict"
theorem Dp.ty (h : Dp K H v d) : TyX K H v (.type (tyD d)) := by
  cases h with
  | non => exact .base .non
  | bl b => exact .base (.bl b)
  | int i => exact .base (.int i)
  | str x => exact .base (.str x)
  | lst h1 h2 =>
    rcases h1 with (h1 | ⟨o, h1⟩) | ⟨o, its, n, h1, h3, _⟩
    · exact .base (.lst h1)
    · exact .base (.frz h1)
    · exact .kList h1 h3
  | tup h1 h2 =>
    rcases h1 with (h1 | ⟨o, h1⟩) | ⟨o, its, n, h1, h3, _⟩
    · exact .base (.tup h1)
    · exact .fTuple h1
    · exact .kTuple h1 h3
/-- isinstance of a built-in type, by names -/
def isTy (t c : String) : Bool := t == c || (t == "bool" && c == "int")
theorem kit_tab : ∀ t ∈ ["NoneType", "bool", "int", "str", "list", "tuple", "dict"], ∀ c ∈ ["bool", "int", "str", "list", "tuple", "dict"], kitB t c = some (isTy t c) := by decide +kernel
theorem tyD_mem (d : PyData) : tyD d ∈ ["NoneType", "bool", "int", "str", "list", "tuple", "dict"] := by cases d <;> simp [tyD]
theorem kit_d (d : PyData) {c : String} (h : c ∈ ["bool", "int", "str", "list", "tuple", "dict"]) : PySem.W.kitOne K (.type (tyD d)) (.type c) = some (isTy (tyD d) c) := kit_ty (kit_tab _ (tyD_mem d) _ h)
theorem kit_t {t c : String} (ht : t ∈ ["NoneType", "bool", "int", "str", "list", "tuple", "dict"]) (h : c ∈ ["bool", "int", "str", "list", "tuple", "dict"]) : PySem.W.kitOne K (.type t) (.type c) = some (isTy t c) := kit_ty (kit_tab _ ht _ h)
end
section
variable {K : PySem.W.Frag} {H : Hp} {v : V}
theorem TyX.int_inv (h : TyX K H v (.type "int")) : ∃ i, v = .int i := by
  generalize e : Value.type "int" = t at h
  cases h with
  | base h => cases h <;> first | exact ⟨_, rfl⟩ | (simp at e)
  | _ => simp at e
end
/-! ### isinstance of data -/
section
variable {X : Cx}
/-- isinstance(x, T): T a built-in type's name; x a datum, or a thing of a known type -/
def rIsD (K : PySem.W.Frag) : List V → Hp → VK → Prop := fun xs H Q => ∃ (x : V) (t c : String), xs = [x, .ty c] ∧ TyX K H x (.type t) ∧ t ∈ ["NoneType", "bool", "int", "str", "list", "tuple", "dict"] ∧ c ∈ ["bool", "int", "str", "list", "tuple", "dict"] ∧ Q (.bl (isTy t c)) H
theorem call_isD : CallR X (.builtin "isinstance") (rIsD X.K) := by
  intro pins s σ H xs us Q I r h
  obtain ⟨x, t, c, rfl, ty, ht, hc, q⟩ := h
  exact call_isi pins s σ H _ us Q I r ⟨x, .ty c, .type t, .type c, isTy t c, rfl, .ty c, ty, kit_t ht hc, q⟩
end
section
variable {X : Cx}
def rIsTD (K : PySem.W.Frag) : List V → Hp → VK → Prop := fun xs H Q => ∃ (x : V) (tp : Addr) (cs : List String) (t : String), xs = [x, .ref tp] ∧ H tp = some (.tup (cs.map V.ty)) ∧ TyX K H x (.type t) ∧ t ∈ ["NoneType", "bool", "int", "str", "list", "tuple", "dict"] ∧
  (∀ c ∈ cs, c ∈ ["bool", "int", "str", "list", "tuple", "dict"]) ∧ Q (.bl (cs.any (isTy t))) H
theorem kitAny_t {K : PySem.W.Frag} {t : String} (ht : t ∈ ["NoneType", "bool", "int", "str", "list", "tuple", "dict"]) : ∀ {cs : List String}, (∀ c ∈ cs, c ∈ ["bool", "int", "str", "list", "tuple", "dict"]) → PySem.W.kitAny K (.type t) (cs.map Value.type) = some (cs.any (isTy t))
  | [], _ => rfl
  | c :: cs, h => by
    rw [List.map_cons, List.any_cons]
    refine kitAny_cons (kit_t ht (h c (by simp))) (fun e => ?_) fun e => by rw [e, Bool.true_or]
    rw [e, Bool.false_or]
    exact kitAny_t ht fun x hx => h x (List.mem_cons_of_mem c hx)
theorem clsv_map : ∀ cs : List String, Paired ClsV (cs.map V.ty) (cs.map Value.type)
  | [] => .nil
  | c :: cs => .cons (.ty c) (clsv_map cs)
theorem call_isTDK (K : PySem.W.Frag) (hK : X.K = K := by rfl) : CallR X (.builtin "isinstance") (rIsTD K) := by
  subst hK
  intro pins s σ H xs us Q I r h
  obtain ⟨x, tp, cs, t, rfl, hp, ty, ht, hc, q⟩ := h
  exact call_isiT pins s σ H _ us Q I r ⟨x, tp, _, .type t, _, _, rfl, hp, clsv_map cs, ty, kitAny_t ht hc, q⟩
end
/-! ### the rules with the written part named -/
section
variable {X : Cx} {a b e o : Expr} {ta tb te to : TE} {pos : Pos}
theorem ix_listK (K : PySem.W.Frag) (hK : X.K = K := by rfl) : IxR X (rIxL K) := by subst hK; exact ix_list
theorem ix_tupK (K : PySem.W.Frag) (hK : X.K = K := by rfl) : IxR X (rIxT K) := by subst hK; exact ix_tup
theorem ix_seqK (K : PySem.W.Frag) (hK : X.K = K := by rfl) : IxR X (rIx K) := by subst hK; exact ix_seq
theorem sl_listK (K : PySem.W.Frag) (hK : X.K = K := by rfl) : SlR X (rSlL K) := by subst hK; exact sl_list
theorem sl_tupK (K : PySem.W.Frag) (hK : X.K = K := by rfl) : SlR X (rSlA K) := by subst hK; exact sl_tupA
theorem op_catK (K : PySem.W.Frag) (hK : X.K = K := by rfl) : OpR X (binaryOp .Add) (rCatA K) := by subst hK; exact op_catA
theorem op_eqDK (K : PySem.W.Frag) (hu : X.A.units + 65 < cLine) (hK : X.K = K := by rfl) : OpR X (compareOp .Eq) (rEqD K) := by subst hK; exact op_eqD (by omega)
theorem op_neDK (K : PySem.W.Frag) (hu : X.A.units + 65 < cLine) (hK : X.K = K := by rfl) : OpR X (compareOp .NotEq) (rNeD K) := by subst hK; exact op_neD (by omega)
theorem op_inTDK (K : PySem.W.Frag) (hu : X.A.units + 65 < cLine) (hK : X.K = K := by rfl) : OpR X (compareOp .In) (rInTD K) := by subst hK; exact op_inTD hu
theorem op_notInTDK (K : PySem.W.Frag) (hu : X.A.units + 65 < cLine) (hK : X.K = K := by rfl) : OpR X (compareOp .NotIn) (rNotInTD K) := by subst hK; exact op_notInTD hu
theorem op_inDK (K : PySem.W.Frag) (hu : X.A.units + 65 < cLine) (hK : X.K = K := by rfl) : OpR X (compareOp .In) (rInD K) := by subst hK; exact op_inD hu
theorem op_notInDK (K : PySem.W.Frag) (hu : X.A.units + 65 < cLine) (hK : X.K = K := by rfl) : OpR X (compareOp .NotIn) (rNotInD K) := by subst hK; exact op_notInD hu
theorem op_in_seqK (K : PySem.W.Frag) (hK : X.K = K := by rfl) : OpR X (compareOp .In) (rIn K false) := by subst hK; exact op_in_seq
theorem op_notIn_seqK (K : PySem.W.Frag) (hK : X.K = K := by rfl) : OpR X (compareOp .NotIn) (rIn K true) := by subst hK; exact op_notIn_seq
def rLenY (K : PySem.W.Frag) : List V → Hp → VK → Prop := fun xs H Q => ∃ x n, xs = [x] ∧ LenV K x H n ∧ Q (.int n) H
theorem call_lenK (K : PySem.W.Frag) (hK : X.K = K := by rfl) : CallR X (.builtin "len") (rLenY K) := by subst hK; exact call_len
theorem call_isDK (K : PySem.W.Frag) (hK : X.K = K := by rfl) : CallR X (.builtin "isinstance") (rIsD K) := by subst hK; exact call_isD
theorem call_isiK1 (K : PySem.W.Frag) (hK : X.K = K := by rfl) : CallR X (.builtin "isinstance") (rIsi K) := by subst hK; exact call_isi
theorem call_isiTK (K : PySem.W.Frag) (hK : X.K = K := by rfl) : CallR X (.builtin "isinstance") (rIsiT K) := by subst hK; exact call_isiT
def rTupOf (K : PySem.W.Frag) : List V → Hp → VK → Prop := fun xs H Q => ∃ p ys, xs = [.ref p] ∧ ((SqL K H p ys ∧ ∀ l, H l = none → Q (.ref l) (upd H l (.tup ys))) ∨ (SqT K H p ys ∧ Q (.ref p) H))
theorem call_tupK (K : PySem.W.Frag) (hK : X.K = K := by rfl) : CallR X (.type "tuple") (rTupOf K) := by subst hK; exact call_tuple_of
def rLstOf (K : PySem.W.Frag) : List V → Hp → VK → Prop := fun xs H Q => ∃ p ys, xs = [.ref p] ∧ (SqL K H p ys ∨ SqT K H p ys) ∧ ∀ l, H l = none → Q (.ref l) (upd H l (.lst ys))
theorem call_lstK (K : PySem.W.Frag) (hK : X.K = K := by rfl) : CallR X (.type "list") (rLstOf K) := by subst hK; exact call_list_of
theorem cr_allK (K : PySem.W.Frag) (hc : X.calm = true) (hK : X.K = K := by rfl) : CallR X (.builtin "all") (rAll K) := by subst hK; exact cr_all hc
theorem cr_anyK (K : PySem.W.Frag) (hc : X.calm = true) (hK : X.K = K := by rfl) : CallR X (.builtin "any") (rAny K) := by subst hK; exact cr_any hc
theorem cr_sumK (K : PySem.W.Frag) (hc : X.calm = true) (hK : X.K = K := by rfl) : CallR X (.builtin "sum") (rSum K) := by subst hK; exact cr_sum hc
theorem pi_listK (K : PySem.W.Frag) {tg l : Expr} {tl : TE} (hl : PE X l tl) (hK : X.K = K := by rfl) : PI X tg l (iList K tl) := by subst hK; exact pi_list hl
theorem pi_tupK (K : PySem.W.Frag) {tg l : Expr} {tl : TE} (hl : PE X l tl) (hK : X.K = K := by rfl) : PI X tg l (iTup K tl) := by subst hK; exact pi_tup hl
theorem pg_tupK (K : PySem.W.Frag) {es : List Expr} {k : Nat} {t : TGs} {n : Nat} (hc : X.calm = true) (h : PGs X es t)
    (hn : (assignEach es X.env).length = n := by rfl) (hst : (assignEach es X.env).findIdx? (·.1) = none := by rfl) (hK : X.K = K := by rfl) : PG X (.Tuple es k pos) (gTup K n t) := by subst hK; exact pg_tup hc h hn hst
theorem pe_fldK (K : PySem.W.Frag) {f : Str} (he : PE X e ta) (hb : attributeBase e f X.env (eval e X.env) = eval e X.env) (hK : X.K = K := by rfl) : PE X (.Attribute e f pos) (tFld K ta f) := by subst hK; exact pe_fld he hb
theorem ps_fldK (K : PySem.W.Frag) {value : Expr} {tv : TE} {f : Str} {pos' : Pos} (ha : PE X o ta) (hv : PE X value tv) (hs : swapsWith value (some (.Attribute o f pos')) pos.line X.env = pure false) (hK : X.K = K := by rfl) : PS X (.Assign [.Attribute o f pos'] value pos) (sFld K ta tv f) := by
  subst hK; exact ps_fld ha hv hs
theorem pe_bmK (K : PySem.W.Frag) {es : List Expr} {t : TA} {name : Str} {apos cpos : Pos} {T id : String} {r : V → List V → Hp → VK → Prop} (pa : PlainAttrs T) (slot : Slot T name id) (hty : typeOf (.builtin id) = pure (.type "method_descriptor")) (hm : MtR X id r) (ho : PE X o to) (ha : PA X (e :: es) t)
    (hK : X.K = K := by rfl) (h : PE X o to → PA X (e :: es) t → PE X (.Call (.Attribute o name apos) (e :: es) [] cpos) (tBM X.K T r to t) := by intro h1 h2; exact pe_bm (by assumption) (by assumption) (by assumption) (by assumption) h1 h2) : PE X (.Call (.Attribute o name apos) (e :: es) [] cpos) (tBM K T r to t) := by
  subst hK; exact h ho ha
end
end L2

namespace L2
open PySem PySem.Spec PyProof.Rows
/-! ### what a reading evaluates to, as data -/
theorem line_of {n : Nat} (h : n ≤ 100000) : n ≤ sizeLine := Nat.le_trans h (by decide)
theorem line_lt {n : Nat} (h : n < 100000) : n < sizeLine := Nat.lt_of_lt_of_le h (by decide)
def Gv (K : PySem.W.Frag) (te : TE) (σ : St) (H : Hp) (d : PyData) : Prop := ∀ H1, Same H H1 → ∀ Q : VK, (∀ v H2, Same H1 H2 → Dp K H2 v d → Q v H2) → te σ H1 Q
def Gs (K : PySem.W.Frag) (ta : TA) (σ : St) (H : Hp) (ds : List PyData) : Prop := ∀ H1, Same H H1 → ∀ Q : List V → Hp → Prop, (∀ vs H2, Same H1 H2 → DpAll K H2 vs ds → Q vs H2) → ta σ H1 Q
/-- a list of its own: new -/
def Gl1 (K : PySem.W.Frag) (te : TE) (σ : St) (H : Hp) (ds : List PyData) : Prop := ∀ H1, Same H H1 → ∀ Q : VK, (∀ p xs H2, H1 p = none → Same H1 H2 → H2 p = some (.lst xs) → DpAll K H2 xs ds → Q (.ref p) H2) → te σ H1 Q
/-- a test -/
def Gb (tt : TT) (σ : St) (H : Hp) (b : Bool) : Prop := ∀ H1, Same H H1 → ∀ Q : Bool → Hp → Prop, (∀ H2, Same H1 H2 → Q b H2) → tt σ H1 Q
section
variable {K : PySem.W.Frag} {σ : St} {H H' : Hp} {ta tb te : TE} {tas : TA} {x y z v : V} {d d1 d2 : PyData} {ds : List PyData}
theorem Gv.mono (h : Gv K te σ H d) (s : Same H H') : Gv K te σ H' d := fun H1 s1 Q q => h H1 (s.trans s1) Q q
theorem Gs.mono (h : Gs K tas σ H ds) (s : Same H H') : Gs K tas σ H' ds := fun H1 s1 Q q => h H1 (s.trans s1) Q q
theorem gv_var {i : Nat} (h : σ[i]? = some (some v)) (hd : Dp K H v d) : Gv K (tVar i) σ H d := fun H1 s1 Q q => ⟨v, h, q v H1 (Same.refl H1) (s1.dp hd)⟩
theorem gv_varI {i : Nat} {n : Int} (h : σ[i]? = some (some (.int n))) : Gv K (tVar i) σ H (.int n) := gv_var h (.int n)
theorem gv_varS {i : Nat} {n : Str} (h : σ[i]? = some (some (.str n))) : Gv K (tVar i) σ H (.str n) := gv_var h (.str n)
theorem gv_varB {i : Nat} {n : Bool} (h : σ[i]? = some (some (.bl n))) : Gv K (tVar i) σ H (.bool n) := gv_var h (.bl n)
theorem gv_varN {i : Nat} (h : σ[i]? = some (some .non)) : Gv K (tVar i) σ H .none := gv_var h .non
theorem gv_c (hd : ∀ H, Dp K H v d) : Gv K (tC v) σ H d := fun H1 _ Q q => q v H1 (Same.refl H1) (hd H1)
theorem gv_int {i : Int} : Gv K (tC (.int i)) σ H (.int i) := gv_c fun _ => .int i
theorem gv_str {i : Str} : Gv K (tC (.str i)) σ H (.str i) := gv_c fun _ => .str i
theorem gv_bl {i : Bool} : Gv K (tC (.bl i)) σ H (.bool i) := gv_c fun _ => .bl i
theorem gv_non : Gv K (tC .non) σ H .none := gv_c fun _ => .non
theorem gs_nil : Gs K tNil σ H [] := fun H1 _ Q q => q [] H1 (Same.refl H1) .nil
theorem gs_cons (h1 : Gv K te σ H d) (h2 : Gs K tas σ H ds) : Gs K (tCons te tas) σ H (d :: ds) := fun H1 s1 Q q =>
  h1 H1 s1 _ fun v H2 s2 hv => h2 H2 (s1.trans s2) _ fun vs H3 s3 hvs => q (v :: vs) H3 (s2.trans s3) (.cons (s3.dp hv) hvs)
theorem gv_tup (h : Gs K tas σ H ds) (hl : ds.length ≤ 100000) : Gv K (tTup tas) σ H (.tuple ds) := fun H1 s1 Q q =>
  h H1 s1 _ fun vs H2 s2 hvs => ⟨line_of (by rw [hvs.length]; exact hl), fun p hp => q (.ref p) _ (s2.add hp) (.tupOf upd_same ((Same.new hp).dpAll hvs))⟩
theorem gv_lst (h : Gs K tas σ H ds) (hl : ds.length ≤ 100000) : Gv K (tLst tas) σ H (.list ds) := fun H1 s1 Q q =>
  h H1 s1 _ fun vs H2 s2 hvs => ⟨line_of (by rw [hvs.length]; exact hl), fun p hp => q (.ref p) _ (s2.add hp) (.lstOf upd_same ((Same.new hp).dpAll hvs))⟩
theorem gl_lst (h : Gs K tas σ H ds) (hl : ds.length ≤ 100000) : Gl1 K (tLst tas) σ H ds := fun H1 s1 Q q =>
  h H1 s1 _ fun vs H2 s2 hvs => ⟨line_of (by rw [hvs.length]; exact hl), fun p hp => q p vs _ (s2.free hp) (s2.add hp) upd_same ((Same.new hp).dpAll hvs)⟩
theorem Gl1.gv (h : Gl1 K te σ H ds) : Gv K te σ H (.list ds) := fun H1 s1 Q q => h H1 s1 Q fun p xs H2 hp s2 h2 hd => q (.ref p) H2 s2 (.lstOf h2 hd)
theorem gv_i0 {g : Int → Int → V} {i j : Int} (ha : Gv K ta σ H (.int i)) (hb : Gv K tb σ H (.int j)) (hg : ∀ H, Dp K H (g i j) d) : Gv K (tOp (rI0 g) ta tb) σ H d := fun H1 s1 Q q =>
  ha H1 s1 _ fun v H2 s2 hv => hb H2 (s1.trans s2) _ fun u H3 s3 hu => ⟨i, j, hv.int_inv, hu.int_inv, q _ H3 (s2.trans s3) (hg H3)⟩
theorem gv_i {C : Int → Int → Prop} {g : Int → Int → V} {i j : Int} (ha : Gv K ta σ H (.int i)) (hb : Gv K tb σ H (.int j)) (hc : C i j) (hg : ∀ H, Dp K H (g i j) d) : Gv K (tOp (rI C g) ta tb) σ H d := fun H1 s1 Q q =>
  ha H1 s1 _ fun v H2 s2 hv => hb H2 (s1.trans s2) _ fun u H3 s3 hu => ⟨i, j, hv.int_inv, hu.int_inv, hc, q _ H3 (s2.trans s3) (hg H3)⟩
theorem gv_neg {i : Int} (ha : Gv K ta σ H (.int i)) : Gv K (tUn (rU fun i => .int (-i)) ta) σ H (.int (-i)) := fun H1 s1 Q q =>
  ha H1 s1 _ fun v H2 s2 hv => ⟨i, hv.int_inv, q _ H2 s2 (.int _)⟩
theorem gv_ixL {i : Int} (ha : Gv K ta σ H (.list ds)) (hb : Gv K tb σ H (.int i)) (h : atI ds i = some d) : Gv K (tOp (rIxL K) ta tb) σ H d := fun H1 s1 Q q =>
  ha H1 s1 _ fun v H2 s2 hv => hb H2 (s1.trans s2) _ fun u H3 s3 hu => by
    obtain ⟨a, xs, rfl, hq, hx⟩ := (s3.dp hv).lst_inv
    have hl := hx.length
    unfold atI at h
    cases e : ixN ds.length i with
    | none => rw [e] at h; cases h
    | some j =>
      rw [e] at h
      obtain ⟨w, h1, h2⟩ := hx.get (i := j) h
      exact ⟨a, xs, i, w, rfl, hu.int_inv, hq, by unfold atI; rw [hl, e]; exact h1, q w H3 (s2.trans s3) h2⟩
theorem gv_ixT {i : Int} (ha : Gv K ta σ H (.tuple ds)) (hb : Gv K tb σ H (.int i)) (h : atI ds i = some d) : Gv K (tOp (rIxT K) ta tb) σ H d := fun H1 s1 Q q =>
  ha H1 s1 _ fun v H2 s2 hv => hb H2 (s1.trans s2) _ fun u H3 s3 hu => by
    obtain ⟨a, xs, rfl, hq, hx⟩ := (s3.dp hv).tup_inv
    have hl := hx.length
    unfold atI at h
    cases e : ixN ds.length i with
    | none => rw [e] at h; cases h
    | some j =>
      rw [e] at h
      obtain ⟨w, h1, h2⟩ := hx.get (i := j) h
      exact ⟨a, xs, i, w, rfl, hu.int_inv, hq, by unfold atI; rw [hl, e]; exact h1, q w H3 (s2.trans s3) h2⟩
/-- the value, and what follows -/
theorem Gv.go {Q : VK} (h : Gv K te σ H d) (q : ∀ v H2, Same H H2 → Dp K H2 v d → Q v H2) : te σ H Q := h H (Same.refl H) Q q
theorem Gl1.go {Q : VK} (h : Gl1 K te σ H ds) (q : ∀ p xs H2, H p = none → Same H H2 → H2 p = some (.lst xs) → DpAll K H2 xs ds → Q (.ref p) H2) : te σ H Q := h H (Same.refl H) Q q
theorem Gs.go {Q : List V → Hp → Prop} (h : Gs K tas σ H ds) (q : ∀ vs H2, Same H H2 → DpAll K H2 vs ds → Q vs H2) : tas σ H Q := h H (Same.refl H) Q q
end
/-- len of a list or a tuple -/
theorem Dp.seq {K : PySem.W.Frag} {H : Hp} {v : V} {ds : List PyData} {d : PyData} (h : Dp K H v d) (e : d = .list ds ∨ d = .tuple ds) : ∃ a xs, v = .ref a ∧ (d = .list ds ∧ SqL K H a xs ∨ d = .tuple ds ∧ SqT K H a xs) ∧ DpAll K H xs ds := by
  rcases e with rfl | rfl
  · obtain ⟨a, xs, rfl, h1, h2⟩ := h.lst_inv
    exact ⟨a, xs, rfl, .inl ⟨rfl, h1⟩, h2⟩
  · obtain ⟨a, xs, rfl, h1, h2⟩ := h.tup_inv
    exact ⟨a, xs, rfl, .inr ⟨rfl, h1⟩, h2⟩
theorem Dp.len {K : PySem.W.Frag} {H : Hp} {v : V} {ds : List PyData} {d : PyData} (h : Dp K H v d) (e : d = .list ds ∨ d = .tuple ds) : LenV K v H ds.length := by
  obtain ⟨a, xs, rfl, h1, h2⟩ := h.seq e
  rw [← h2.length]
  rcases h1 with ⟨_, h1⟩ | ⟨_, h1⟩
  · exact .inl ⟨xs, h1, rfl⟩
  · exact .inr ⟨xs, h1, rfl⟩
theorem Dp.ix {K : PySem.W.Frag} {H : Hp} {v : V} {ds : List PyData} {d e : PyData} {i : Nat} {Q : VK} (h : Dp K H v d) (hd : d = .list ds ∨ d = .tuple ds) (hi : ds[i]? = some e) (q : ∀ u, Dp K H u e → Q u H) : rIx K v (.int (i : Nat)) H Q := by
  obtain ⟨a, xs, rfl, h1, h2⟩ := h.seq hd
  obtain ⟨u, hu1, hu2⟩ := h2.get hi
  rcases h1 with ⟨_, h1⟩ | ⟨_, h1⟩
  · exact .inl ⟨a, xs, _, u, rfl, rfl, h1, atI_nat hu1, q u hu2⟩
  · exact .inr (.inl ⟨a, xs, _, u, rfl, rfl, h1, atI_nat hu1, q u hu2⟩)
/-- == of plain values, or of data -/
def rEqA (K : PySem.W.Frag) : R2 := fun x y H Q => rEq x y H Q ∨ rEqD K x y H Q
def rNeA (K : PySem.W.Frag) : R2 := fun x y H Q => rNe x y H Q ∨ rNeD K x y H Q
theorem op_eqAK {X : Cx} (K : PySem.W.Frag) (hu : X.A.units + 65 < cLine) (hK : X.K = K := by rfl) : OpR X (compareOp .Eq) (rEqA K) := op_eq.or (op_eqDK K hu hK)
theorem op_neAK {X : Cx} (K : PySem.W.Frag) (hu : X.A.units + 65 < cLine) (hK : X.K = K := by rfl) : OpR X (compareOp .NotEq) (rNeA K) := op_ne.or (op_neDK K hu hK)
end L2

namespace L2
open PySem PySem.Spec PyProof.Rows
/-! ### a + b by the class's own def -/
section
variable {X : Cx} {CX : CXT} {k : Nat} {f C : Addr} {fd : FuncData} {ps : List Str} {sp : Sp} {E : XK}
def rAddO (C : Addr) (sp : Sp) (E : XK) : R2 := fun x y H Q => ∃ a dx fs b dx' fs', x = .ref a ∧ y = .ref b ∧ H a = some (.ins C dx fs) ∧ H b = some (.ins C dx' fs') ∧ sp [.ref a, .ref b] H (fun v H' => (∃ c, v = .ref c) ∧ Q v H') E
theorem op_addO (hs : Spc X.K C "__add__" f) (hc : PySem.W.selfFirst X.K C = true) (F : FnOk X.prog X.w X.K X.mg X.base CX k f fd ps sp) (hr : Room k X.A) (hb : Binds X.K fd ps []) (hx : Passes CX X E) : OpR X (binaryOp .Add) (rAddO C sp E) := by
  intro pins s σ H x y v u Q I rx ry h
  obtain ⟨a, dx, fs, b, dx', fs', rfl, rfl, e, e', h⟩ := h
  cases rx
  cases ry
  obtain ⟨od, J⟩ := ins_at I e
  obtain ⟨od', J'⟩ := ins_at I e'
  obtain ⟨m, F0⟩ := I.fr
  refine PySem.W.binop_K F0 I.ok.mod.kin J J'.type hc hs.at_ hs.fn (wpAny_mono (run_fn F hr hb .nil hx I (vs := [.ref a, .ref b]) (us := [.ref a, .ref b]) (.cons rfl (.cons rfl .nil)) h) (fun v s' q => ?_) fun _ _ z => z)
  obtain ⟨v', H', I', rv, ⟨c, rfl⟩, q⟩ := q
  cases rv
  exact ⟨.ref c, H', I', rfl, q⟩
end
/-- a slice's part left out -/
theorem po_no {X : Cx} : PO X none (fun _ H Q => Q none H) := po_none
/-! ### tuples of data: t + u, t[:n], t[n:] -/
section
variable {K : PySem.W.Frag} {H : Hp} {Q : VK} {v u : V} {ds es : List PyData}
theorem catT_go (hv : Dp K H v (.tuple ds)) (hu : Dp K H u (.tuple es)) (hl : ds.length + es.length ≤ 100000) (q : ∀ w H', Same H H' → Dp K H' w (.tuple (ds ++ es)) → Q w H') : rCatA K v u H Q := by
  obtain ⟨a, xs, rfl, ha, hxs⟩ := hv.tup_inv
  obtain ⟨b, ys, rfl, hb, hys⟩ := hu.tup_inv
  have e1 := hxs.length
  have e2 := hys.length
  refine ⟨a, b, xs, ys, rfl, rfl, ha, hb, line_of (by omega), fun e => ?_, fun _ e => ?_, fun _ _ p hp => ?_⟩
  · subst e
    cases hxs
    exact q _ H (Same.refl H) hu
  · subst e
    cases hys
    rw [List.append_nil] at q
    exact q _ H (Same.refl H) hv
  · exact q _ _ (Same.new hp) (.tupOf upd_same (((Same.new hp).dpAll hxs).append ((Same.new hp).dpAll hys)))
theorem slT_go {lo hi : Option Int} {fs : List PyData} (hv : Dp K H v (.tuple ds)) (hf : (ds.drop (HT.sIx ds.length 0 lo)).take (HT.sIx ds.length ds.length hi - HT.sIx ds.length 0 lo) = fs) (q : ∀ w H', Same H H' → Dp K H' w (.tuple fs) → Q w H') : rSlA K v lo hi H Q := by
  obtain ⟨a, xs, rfl, ha, hxs⟩ := hv.tup_inv
  have e1 := hxs.length
  refine ⟨a, xs, rfl, ha, fun e => ?_, fun _ p hp => ?_⟩
  · have : fs = ds := by
      rw [← hf, ← e1, e.1, e.2]
      simp [e1]
    rw [this] at q
    exact q _ H (Same.refl H) hv
  · refine q _ _ (Same.new hp) (.tupOf upd_same ?_)
    rw [← hf]
    unfold cutV
    rw [e1]
    exact (Same.new hp).dpAll ((hxs.drop _).take _)
theorem slT_to {n : Nat} {z : Int} (hv : Dp K H v (.tuple ds)) (e : z = (n : Int)) (q : ∀ w H', Same H H' → Dp K H' w (.tuple (ds.take n)) → Q w H') : rSlA K v none (some z) H Q := by
  subst e
  refine slT_go hv ?_ q
  rw [HT.sIx_none, HT.sIx_nat, List.drop_zero, Nat.sub_zero]
  rcases Nat.le_total n ds.length with h | h
  · rw [Nat.min_eq_left h]
  · rw [Nat.min_eq_right h, List.take_length, List.take_of_length_le h]
theorem slT_from {n : Nat} {z : Int} (hv : Dp K H v (.tuple ds)) (e : z = (n : Int)) (q : ∀ w H', Same H H' → Dp K H' w (.tuple (ds.drop n)) → Q w H') : rSlA K v (some z) none H Q := by
  subst e
  refine slT_go hv ?_ q
  rw [HT.sIx_none, HT.sIx_nat]
  rcases Nat.le_total n ds.length with h | h
  · rw [Nat.min_eq_left h, List.take_of_length_le (by rw [List.length_drop]; exact Nat.le_refl _)]
  · rw [Nat.min_eq_right h, List.drop_of_length_le h, List.drop_length]; simp
end
/-! ### texts joined -/
def rJoin (K : PySem.W.Frag) : V → List V → Hp → VK → Prop := fun x xs H Q => ∃ a p, ∃ ys : List Str, x = .str a ∧ xs = [.ref p] ∧ (SqL K H p (ys.map V.str) ∨ SqT K H p (ys.map V.str)) ∧ (ys.map (·.length)).sum + ys.length * a.length ≤ 16777216 ∧ Q (.str (Txt.join a ys)) H
theorem pe_joinK {X : Cx} {o e : Expr} {to te : TE} (K : PySem.W.Frag) {apos pos : Pos} (ho : PE X o to) (he : PE X e te) (hK : X.K = K := by rfl) (hs : starEach [e] X.env = [(false, eval e X.env)] := by rfl) (hbase : attributeBase o "join" X.env (eval o X.env) = eval o X.env := by rfl) (hline : (apos.endLine == pos.line) = true := by rfl) :
    PE X (.Call (.Attribute o "join" apos) [e] [] pos) (tM1 (rJoin K) to te) := by subst hK; exact pe_join ho he hs hbase hline
end L2

/-! # The ledgers as plain data: what each deed and each step makes of them -/
namespace M
open PySem L2
structure OL where
  label : Int
  start : Int
  moves : Int
  tie : Option Int
  standing : Bool
  deriving DecidableEq
structure NL where
  number : Int
  label : Int
  start : Int
  source : Option Int
  moves : Int
  tie : Option Int
  typed : List Str
  deriving DecidableEq
structure Led where
  elder : List OL
  later : List NL
  ever : Int
  fresh : List Int
  ahead : List (Int × Int × Option Int)
  deriving DecidableEq
def OL.closing (o : OL) : Int := o.start + o.moves
/-- the sources of the made lines -/
def srcs (ns : List NL) : List Int := ns.filterMap (·.source)
def nums (ns : List NL) : List Int := ns.map (·.number)
def owns (ns : List NL) : Nat := (ns.filter fun n => n.source.isNone).length
structure WF (L : Led) (B : Nat) : Prop where
  num : (nums L.later).Pairwise (· < ·)
  lo : ∀ n ∈ L.later, 1 ≤ n.number ∧ n.number ≤ L.ever
  ev : 0 ≤ L.ever
  src : ∀ s ∈ srcs L.later, 1 ≤ s ∧ s ≤ L.elder.length
  nd : (srcs L.later).Nodup
  sz : L.elder.length + owns L.later ≤ B
  ty : ∀ n ∈ L.later, n.typed.length ≤ B
theorem len_split : ∀ ns : List NL, ns.length = (srcs ns).length + owns ns
  | [] => rfl
  | n :: ns => by
    have h := len_split ns
    unfold srcs owns at h ⊢
    cases e : n.source with
    | none => rw [List.filterMap_cons, e, List.filter_cons_of_pos (by rw [e]; rfl), List.length_cons, List.length_cons]; simp only; omega
    | some s => rw [List.filterMap_cons, e, List.filter_cons_of_neg (by rw [e]; simp), List.length_cons, List.length_cons]; omega
/-- different numbers from 1 to m are m at most -/
theorem pigeon : ∀ (m : Nat) (l : List Int), l.Nodup → (∀ x ∈ l, 1 ≤ x ∧ x ≤ (m : Int)) → l.length ≤ m
  | 0, l, _, h => by
    cases l with
    | nil => simp
    | cons x r => have := h x (by simp); omega
  | m + 1, l, hn, h => by
    have h1 := pigeon m (l.filter (· ≠ ((m + 1 : Nat) : Int))) (hn.filter _) fun x hx => by
      have hx' := List.mem_filter.mp hx
      have a := h x hx'.1
      have b : x ≠ ((m + 1 : Nat) : Int) := by simpa using hx'.2
      omega
    have h2 : l.length ≤ (l.filter (· ≠ ((m + 1 : Nat) : Int))).length + 1 := by
      clear h1 h
      induction l with
      | nil => simp
      | cons x r ih =>
        have hr := (List.nodup_cons.mp hn)
        by_cases e : x = ((m + 1 : Nat) : Int)
        · have : r.filter (· ≠ ((m + 1 : Nat) : Int)) = r := List.filter_eq_self.mpr fun y hy => by
            have : y ≠ x := fun z => hr.1 (z ▸ hy)
            simp; omega
          rw [List.filter_cons_of_neg (by simp [e]), this]; simp
        · rw [List.filter_cons_of_pos (by simpa using e)]
          have := ih hr.2
          simp only [List.length_cons]; omega
    omega
theorem WF.later_len {L : Led} {B : Nat} (w : WF L B) : L.later.length ≤ B := by
  have h1 := len_split L.later
  have h2 := pigeon L.elder.length (srcs L.later) w.nd w.src
  have h3 := w.sz
  omega
theorem WF.mono {L : Led} {B B' : Nat} (w : WF L B) (h : B ≤ B') : WF L B' := ⟨w.num, w.lo, w.ev, w.src, w.nd, Nat.le_trans w.sz h, fun n hn => Nat.le_trans (w.ty n hn) h⟩
/-! ### the deeds' parts -/
def Led.init : Led := ⟨[], [], 0, [], []⟩
theorem WF.init : WF Led.init 0 := ⟨List.Pairwise.nil, fun n h => absurd h (List.not_mem_nil (a := n)), Int.le_refl 0, fun s h => absurd h (List.not_mem_nil (a := s)), List.Pairwise.nil, Nat.le_refl 0, fun n h => absurd h (List.not_mem_nil (a := n))⟩
def oldAt (L : Led) (s : Int) : Option OL := if 1 ≤ s ∧ s ≤ L.elder.length then L.elder[(s - 1).toNat]? else none
def addM (L : Led) (label amount : Int) : Led := { L with elder := L.elder ++ [⟨label, amount, 0, none, true⟩] }
def putM (L : Led) (label start : Int) (source : Option Int) : Led := { L with later := L.later ++ [⟨L.ever + 1, label, start, source, 0, none, []⟩], ever := L.ever + 1 }
def setOld (L : Led) (n : Int) (f : OL → OL) : Led := { L with elder := L.elder.modify (n - 1).toNat f }
def setNew (L : Led) (n : Int) (f : NL → NL) : Led := { L with later := L.later.map fun l => if l.number = n then f l else l }
/-- a deed -/
inductive Deed where
  | add (l a : Int)
  | label (n l : Int)
  | moves (n a : Int)
  | tie (n : Int) (m : Option Int)
  | fin (n : Int)
  | own (l : Int)
  | wlabel (n l : Int)
  | wmoves (n a : Int)
  | wtie (n : Int) (m : Option Int)
  | run
def inO (L : Led) (n : Int) : Prop := 1 ≤ n ∧ n ≤ (L.elder.length : Int)
def inN (L : Led) (n : Int) : Prop := n ∈ nums L.later
/-- the deed's lines are there -/
def okM (L : Led) : Deed → Prop
  | .add _ _ => True
  | .label n _ => inO L n
  | .moves n _ => inO L n
  | .tie n m => inO L n ∧ ∀ k, m = some k → inO L k
  | .fin n => inO L n
  | .own _ => True
  | .wlabel n _ => inN L n
  | .wmoves n _ => inN L n
  | .wtie n m => inN L n ∧ ∀ k, m = some k → inN L k
  | .run => True
/-- one turn of make: the i-th old line -/
def makeTurn (there : List Int) (all : Bool) (L : Led) (i : Nat) (o : OL) : Led :=
  if ((i : Int) + 1) ∉ there ∧ (o.standing = true ∨ all = true) then { putM L o.label o.closing (some ((i : Int) + 1)) with fresh := L.fresh ++ [L.ever + 1] } else L
def makeGo (there : List Int) (all : Bool) : Nat → List OL → Led → Led
  | _, [], L => L
  | i, o :: os, L => makeGo there all (i + 1) os (makeTurn there all L i o)
def makeM (all : Bool) (L : Led) : Led := makeGo (srcs L.later) all 0 L.elder L
def isGone (L : Led) (n : NL) : Bool := match n.source with
  | none => false
  | some s => match L.elder[(s - 1).toNat]? with
    | some o => !o.standing
    | none => false
def gone (L : Led) : List Int := (L.later.filter (isGone L)).map (·.number)
def untie (g : List Int) (n : NL) : NL := match n.tie with
  | none => n
  | some t => if t ∈ g then { n with tie := none } else n
def dropM (L : Led) : Led := { L with later := (L.later.filter fun n => decide (n.number ∉ gone L)).map (untie (gone L)) }
/-- the number of the made line of an old line -/
def madeNo (ns : List NL) (s : Int) : Option Int := (ns.find? fun n => n.source == some s).map (·.number)
def inScope (L : Led) (field scope : Str) (n : NL) : Bool := if scope = "new" then decide (n.number ∈ L.fresh) else scope == "all" || !decide (field ∈ n.typed)
def tieOf (ns : List NL) : Option Int → Option Int
  | none => none
  | some t => madeNo ns t
def follow1 (L : Led) (field scope : Str) (n : NL) : NL := match n.source with
  | none => n
  | some s => if inScope L field scope n then (match L.elder[(s - 1).toNat]? with
    | none => n
    | some o => if field = "start" then { n with start := o.closing } else if field = "label" then { n with label := o.label } else { n with tie := tieOf L.later o.tie }) else n
def followM (field scope : Str) (L : Led) : Led := { L with later := L.later.map (follow1 L field scope) }
def stepM (L : Led) (ws : List Str) : Led := match ws with
  | [a] => if a = "drop" then dropM L else L
  | a :: b :: _ => if a = "make" then makeM (b == "all") L else if a = "drop" then dropM L else followM a b L
  | [] => L
def runM (steps : List (List Str)) (L : Led) : Led :=
  steps.foldl stepM { L with ahead := L.later.map fun n => (n.number, n.label, n.tie), fresh := [] }
/-- a deed is played -/
def playM (steps : List (List Str)) (L : Led) : Deed → Led
  | .add l a => addM L l a
  | .label n l => setOld L n fun o => { o with label := l }
  | .moves n a => setOld L n fun o => { o with moves := a }
  | .tie n m => setOld L n fun o => { o with tie := m }
  | .fin n => setOld L n fun o => { o with standing := false }
  | .own l => putM L l 0 none
  | .wlabel n l => setNew L n fun o => { o with label := l, typed := o.typed ++ [("label" : Str)] }
  | .wmoves n a => setNew L n fun o => { o with moves := a }
  | .wtie n m => setNew L n fun o => { o with tie := m, typed := o.typed ++ [("tie" : Str)] }
  | .run => runM steps L
/-! ### what is wrong behind a run -/
def srcOf (ns : List NL) (s : Int) : Option NL := ns.find? fun n => n.source == some s
def isOwnM (f : Str) (n : NL) : Bool := n.source.isNone || decide (f ∈ n.typed)
def wishM (L : Led) : Option Int → Option Int
  | none => none
  | some t => match srcOf L.later t, L.elder[(t - 1).toNat]? with
    | some m, some o => if o.standing then some m.number else none
    | _, _ => none
def oldWrongsM (L : Led) (k : Int) (o : OL) : List Str := match srcOf L.later k with
  | none => if o.standing then ["missing"] else []
  | some m => if o.standing = false then ["stays"] else
    (if m.start ≠ o.closing then [("start" : Str)] else []) ++ ((if isOwnM "label" m = false ∧ m.label ≠ o.label then [("label" : Str)] else []) ++ (if isOwnM "tie" m = false ∧ m.tie ≠ wishM L o.tie then [("tie" : Str)] else []))
def typedWrongsM (L : Led) (n : NL) : List Str := match L.ahead.find? fun x => x.1 == n.number with
  | none => []
  | some x => (if isOwnM "label" n = true ∧ n.label ≠ x.2.1 then [("typed label" : Str)] else []) ++
    (if isOwnM "tie" n = true ∧ n.tie ≠ x.2.2 ∧ ¬ (∃ t, x.2.2 = some t ∧ t ∉ nums L.later) then [("typed tie" : Str)] else [])
/-- the words and the numbers of what is wrong -/
def wrongsM (L : Led) : List (Str × Int) :=
  (L.elder.mapIdx fun i o => (oldWrongsM L ((i : Int) + 1) o).map fun w => (w, (i : Int) + 1)).flatten ++ (L.later.map fun n => (typedWrongsM L n).map fun w => (w, n.number)).flatten
/-! ### histories -/
def playAll (steps : List (List Str)) (L : Led) (es : List Deed) : Led := es.foldl (playM steps) L
def OkAll (steps : List (List Str)) : Led → List Deed → Prop
  | _, [] => True
  | L, e :: es => okM L e ∧ OkAll steps (playM steps L e) es
def isRun : Deed → Bool
  | .run => true
  | _ => false
/-- the faults behind the runs, from the i-th deed on -/
def faultsGo (steps : List (List Str)) : Nat → Led → List Deed → List (Str × Int × Int)
  | _, _, [] => []
  | i, L, e :: es => (if isRun e then (wrongsM (playM steps L e)).map fun x => (x.1, (i : Int), x.2) else []) ++ faultsGo steps (i + 1) (playM steps L e) es
def faultsM (steps : List (List Str)) (es : List Deed) : List (Str × Int × Int) := faultsGo steps 0 Led.init es
theorem OkAll.there {steps : List (List Str)} : ∀ {L : Led} {es : List Deed} {i : Nat} {e : Deed}, OkAll steps L es → es[i]? = some e → okM (playAll steps L (es.take i)) e
  | _, [], _, _, _, h => by simp at h
  | L, x :: es, 0, e, h, hi => by
    simp at hi; subst hi; exact h.1
  | L, x :: es, i + 1, e, h, hi => OkAll.there (i := i) (e := e) h.2 (by simpa using hi)
theorem playAll_snoc {steps : List (List Str)} {L : Led} {es : List Deed} {i : Nat} {e : Deed} (h : es[i]? = some e) : playAll steps L (es.take (i + 1)) = playM steps (playAll steps L (es.take i)) e := by
  rw [List.take_add_one, h]
  simp [playAll, List.foldl_append]
theorem faultsGo_snoc {steps : List (List Str)} {e : Deed} : ∀ {es : List Deed} {L : Led} {k i : Nat}, es[i]? = some e → faultsGo steps k L (es.take (i + 1)) = faultsGo steps k L (es.take i) ++ (if isRun e then (wrongsM (playM steps (playAll steps L (es.take i)) e)).map fun x => (x.1, ((k + i : Nat) : Int), x.2) else [])
  | [], _, _, _, h => by simp at h
  | x :: es, L, k, 0, h => by
    simp at h; subst h
    simp [faultsGo, playAll]
  | x :: es, L, k, i + 1, h => by
    have ih := faultsGo_snoc (steps := steps) (es := es) (L := playM steps L x) (k := k + 1) (i := i) (by simpa using h)
    simp only [List.take_succ_cons, faultsGo]
    rw [ih, List.append_assoc]
    have e1 : k + 1 + i = k + (i + 1) := by omega
    rw [e1]; rfl
theorem faultsGo_take {steps : List (List Str)} : ∀ {es : List Deed} {L : Led} {k n : Nat}, (faultsGo steps k L (es.take n)).length ≤ (faultsGo steps k L es).length
  | [], _, _, _ => by simp
  | e :: es, L, k, 0 => by simp [faultsGo]
  | e :: es, L, k, n + 1 => by
    have ih := faultsGo_take (steps := steps) (es := es) (L := playM steps L e) (k := k + 1) (n := n)
    simp only [List.take_succ_cons, faultsGo, List.length_append]
    omega
theorem flatten_le {α : Type} {n : Nat} : ∀ {l : List (List α)}, (∀ x ∈ l, x.length ≤ n) → l.flatten.length ≤ n * l.length
  | [], _ => by simp
  | x :: l, h => by
    have h1 := h x (by simp)
    have h2 := flatten_le (l := l) fun y hy => h y (List.mem_cons_of_mem x hy)
    rw [List.flatten_cons, List.length_append, List.length_cons, Nat.mul_add, Nat.mul_one]
    omega
theorem oldWrongs_len (L : Led) (k : Int) (o : OL) : (oldWrongsM L k o).length ≤ 3 := by
  unfold oldWrongsM
  split
  · split <;> simp
  · split
    · simp
    · simp only [List.length_append]
      split <;> split <;> split <;> simp
theorem typedWrongs_len (L : Led) (n : NL) : (typedWrongsM L n).length ≤ 2 := by
  unfold typedWrongsM
  split
  · simp
  · simp only [List.length_append]
    split <;> split <;> simp
theorem wrongs_len (L : Led) : (wrongsM L).length ≤ 3 * L.elder.length + 2 * L.later.length := by
  unfold wrongsM
  rw [List.length_append]
  have h1 := flatten_le (n := 3) (l := L.elder.mapIdx fun i o => (oldWrongsM L ((i : Int) + 1) o).map fun w => (w, (i : Int) + 1)) fun x hx => by
    obtain ⟨i, hi, rfl⟩ := List.mem_mapIdx.mp hx
    rw [List.length_map]; exact oldWrongs_len _ _ _
  have h2 := flatten_le (n := 2) (l := L.later.map fun n => (typedWrongsM L n).map fun w => (w, n.number)) fun x hx => by
    obtain ⟨n, _, rfl⟩ := List.mem_map.mp hx
    rw [List.length_map]; exact typedWrongs_len _ _
  rw [List.length_mapIdx] at h1
  rw [List.length_map] at h2
  omega
end M

/-! # The ledgers as they stand in the heap -/
namespace M
open PySem L2
def tv : Option Int → V
  | none => .non
  | some i => .int i
theorem tv_inj {a b : Option Int} (h : tv a = tv b) : a = b := by
  cases a <;> cases b <;> simp [tv] at h ⊢; exact h
def oF (n : Int) (o : OL) : List (Str × V) := [("number", .int n), ("label", .int o.label), ("start", .int o.start), ("moves", .int o.moves), ("tie", tv o.tie), ("standing", .bl o.standing)]
def nF (n : NL) (t : Addr) : List (Str × V) := [("number", .int n.number), ("label", .int n.label), ("start", .int n.start), ("source", tv n.source), ("moves", .int n.moves), ("tie", tv n.tie), ("typed", .ref t)]
def lF (l1 l2 l3 d : Addr) (ever : Int) : List (Str × V) := [("elder", .ref l1), ("later", .ref l2), ("ever", .int ever), ("fresh", .ref l3), ("ahead", .ref d)]
/-- the classes -/
structure C3 where
  o : Addr
  n : Addr
  l : Addr
  on : o ≠ n
  ol : o ≠ l
  nl : n ≠ l
/-- addresses that may be touched: all that are free -/
def Dom (S : Addr → Prop) (H : Hp) : Prop := ∀ x, H x = none → S x
/-- what must not be touched stands -/
structure Keep (S : Addr → Prop) (H H' : Hp) : Prop where
  keep : ∀ b o, H b = some o → ¬ S b → H' b = some o
  tups : Tups H H'
theorem Keep.refl (S : Addr → Prop) (H : Hp) : Keep S H H := ⟨fun _ _ h _ => h, Tups.refl H⟩
theorem Keep.trans {S : Addr → Prop} {H H1 H2 : Hp} (a : Keep S H H1) (b : Keep S H1 H2) : Keep S H H2 := ⟨fun x o h n => b.keep x o (a.keep x o h n) n, a.tups.trans b.tups⟩
theorem _root_.L2.Same.kp {S : Addr → Prop} {H H' : Hp} (s : Same H H') : Keep S H H' := ⟨fun b o h _ => s b o h, s.tups⟩
theorem Keep.mut {S : Addr → Prop} {H : Hp} {p : Addr} {o : HO} (hs : S p) (h : Mut (H p)) : Keep S H (upd H p o) := ⟨fun b u e n => by rw [upd_ne (fun z => n (by rw [z]; exact hs))]; exact e, Tups.mut h⟩
theorem Keep.dom {S : Addr → Prop} {H H' : Hp} (k : Keep S H H') (d : Dom S H) : Dom S H' := fun x h => by
  cases e : H x with
  | none => exact d x e
  | some o =>
    by_cases q : S x
    · exact q
    · rw [k.keep x o e q] at h; cases h
theorem Keep.same {H H' : Hp} {H0 : Hp} (k : Keep (fun x => H0 x = none) H H') (s : Same H0 H) : Same H0 H' := fun b o e => k.keep b o (s b o e) fun z => by rw [e] at z; cases z
theorem Dom.of {H0 H : Hp} (s : Same H0 H) : Dom (fun x => H0 x = none) H := fun x h => s.free h
theorem keepAt {H : Hp} {x y : Addr} {o o0 u : HO} (hx : H x = some o) (hy : H y = some o0) (d : o ≠ o0) : upd H y u x = some o := by rw [upd_ne (ne_of hx hy d)]; exact hx
abbrev NS := List (Addr × Addr × NL)
/-- label and tie of the lines ahead of the last run -/
def AhAt (H : Hp) (d : Addr) (ah : List (Int × Int × Option Int)) : Prop := ∃ tps : List Addr, tps.length = ah.length ∧ H d = some (.dK ((ah.zip tps).map fun x => (Sum.inl x.1.1, V.ref x.2))) ∧
  ∀ (i : Nat) (x : Int × Int × Option Int) (t : Addr), ah[i]? = some x → tps[i]? = some t → H t = some (.tup [.int x.2.1, tv x.2.2])
theorem AhAt.stay {H H' : Hp} {d : Addr} {ah : List (Int × Int × Option Int)} (h : AhAt H d ah) (hd : ∀ o, H d = some o → H' d = some o) (t : Tups H H') : AhAt H' d ah := by
  obtain ⟨tps, h1, h2, h3⟩ := h
  exact ⟨tps, h1, hd _ h2, fun i x t' e1 e2 => t.1 _ _ (h3 i x t' e1 e2)⟩
structure LedP (C : C3) (S : Addr → Prop) (H : Hp) (a : Addr) (L : Led) (B : Nat) (da l1 l2 l3 d : Addr) (os : List (Addr × OL)) (ns : NS) : Prop where
  ob : H a = some (.ins C.l da (lF l1 l2 l3 d L.ever))
  el : L.elder = os.map (·.2)
  la : L.later = ns.map (·.2.2)
  e : H l1 = some (.lst (os.map fun x => V.ref x.1))
  n : H l2 = some (.lst (ns.map fun x => V.ref x.1))
  f : H l3 = some (.lst (L.fresh.map V.int))
  ah : AhAt H d L.ahead
  po : ∀ (j : Nat) x, os[j]? = some x → ∃ dx, H x.1 = some (.ins C.o dx (oF ((j : Int) + 1) x.2))
  qo : ∀ x ∈ ns, (∃ dx, H x.1 = some (.ins C.n dx (nF x.2.2 x.2.1))) ∧ H x.2.1 = some (.lst (x.2.2.typed.map V.str))
  ld : (l1 :: l2 :: l3 :: ns.map (·.2.1)).Nodup
  sa : S a ∧ S l1 ∧ S l2 ∧ S l3 ∧ S d
  so : ∀ x ∈ os, S x.1
  sn : ∀ x ∈ ns, S x.1 ∧ S x.2.1
  dom : Dom S H
  wf : WF L B
def LedAt (C : C3) (S : Addr → Prop) (H : Hp) (a : Addr) (L : Led) (B : Nat) : Prop := ∃ da l1 l2 l3 d os ns, LedP C S H a L B da l1 l2 l3 d os ns
section
variable {C : C3} {S : Addr → Prop} {H H' : Hp} {a : Addr} {L : Led} {B : Nat} {da l1 l2 l3 d : Addr} {os : List (Addr × OL)} {ns : NS}
theorem nd3 (h : (l1 :: l2 :: l3 :: ns.map (·.2.1)).Nodup) : l1 ≠ l2 ∧ l1 ≠ l3 ∧ l2 ≠ l3 ∧ (∀ x ∈ ns, l1 ≠ x.2.1 ∧ l2 ≠ x.2.1 ∧ l3 ≠ x.2.1) ∧ (ns.map (·.2.1)).Nodup := by
  simp only [List.nodup_cons, List.mem_cons, List.mem_map, not_or, not_exists, not_and] at h
  obtain ⟨⟨h1, h2, h3⟩, ⟨h4, h5⟩, h6, h7⟩ := h
  exact ⟨h1, h2, h4, fun x hx => ⟨fun z => h3 x hx z.symm, fun z => h5 x hx z.symm, fun z => h6 x hx z.symm⟩, h7⟩
/-- nothing of it has changed -/
theorem LedP.stay (P : LedP C S H a L B da l1 l2 l3 d os ns) (k : ∀ b o, H b = some o → S b → H' b = some o) (t : Tups H H') (hd : Dom S H') : LedP C S H' a L B da l1 l2 l3 d os ns :=
  ⟨k _ _ P.ob P.sa.1, P.el, P.la, k _ _ P.e P.sa.2.1, k _ _ P.n P.sa.2.2.1, k _ _ P.f P.sa.2.2.2.1, P.ah.stay (fun o h => k _ o h P.sa.2.2.2.2) t,
    fun j x h => let ⟨dx, h1⟩ := P.po j x h; ⟨dx, k _ _ h1 (P.so x (List.mem_of_getElem? h))⟩,
    fun x hx => let ⟨⟨dx, h1⟩, h2⟩ := P.qo x hx; ⟨⟨dx, k _ _ h1 (P.sn x hx).1⟩, k _ _ h2 (P.sn x hx).2⟩, P.ld, P.sa, P.so, P.sn, hd, P.wf⟩
theorem LedP.same (P : LedP C S H a L B da l1 l2 l3 d os ns) (s : Same H H') : LedP C S H' a L B da l1 l2 l3 d os ns :=
  P.stay (fun b o h _ => s b o h) s.tups fun x h => P.dom x (s.free h)
theorem LedP.mono (P : LedP C S H a L B da l1 l2 l3 d os ns) {B' : Nat} (h : B ≤ B') : LedP C S H a L B' da l1 l2 l3 d os ns :=
  ⟨P.ob, P.el, P.la, P.e, P.n, P.f, P.ah, P.po, P.qo, P.ld, P.sa, P.so, P.sn, P.dom, P.wf.mono h⟩
theorem LedP.elen (P : LedP C S H a L B da l1 l2 l3 d os ns) : L.elder.length = os.length := by rw [P.el, List.length_map]
theorem LedP.llen (P : LedP C S H a L B da l1 l2 l3 d os ns) : L.later.length = ns.length := by rw [P.la, List.length_map]
/-- two new lines with one number are one -/
theorem num_inj (w : WF L B) (la : L.later = ns.map (·.2.2)) {x y : Addr × Addr × NL} (hx : x ∈ ns) (hy : y ∈ ns) (h : x.2.2.number = y.2.2.number) : x = y := by
  have p : (ns.map (·.2.2.number)).Pairwise (· < ·) := by
    have := w.num
    rw [la] at this
    simpa [nums, List.map_map, Function.comp_def] using this
  clear la w
  induction ns with
  | nil => cases hx
  | cons z r ih =>
    rw [List.map_cons, List.pairwise_cons] at p
    rcases List.mem_cons.mp hx with hx | hx <;> rcases List.mem_cons.mp hy with hy | hy
    · rw [hx, hy]
    · have := p.1 _ (List.mem_map.mpr ⟨y, hy, rfl⟩)
      rw [hx] at h; omega
    · have := p.1 _ (List.mem_map.mpr ⟨x, hx, rfl⟩)
      rw [hy] at h; omega
    · exact ih hx hy p.2
theorem WF.map {f : NL → NL} (w : WF L B) (h : ∀ n ∈ L.later, (f n).number = n.number ∧ (f n).source = n.source ∧ (f n).typed.length ≤ B) : WF { L with later := L.later.map f } B := by
  have e1 : nums (L.later.map f) = nums L.later := by
    unfold nums; rw [List.map_map]; exact List.map_congr_left fun n hn => (h n hn).1
  have aux : ∀ l : List NL, (∀ n ∈ l, (f n).source = n.source) → srcs (l.map f) = srcs l ∧ owns (l.map f) = owns l := by
    intro l
    induction l with
    | nil => intro _; exact ⟨rfl, rfl⟩
    | cons n r ih =>
      intro hl
      obtain ⟨h1, h2⟩ := ih fun m hm => hl m (List.mem_cons_of_mem n hm)
      have e := hl n (by simp)
      unfold srcs at h1 ⊢
      unfold owns at h2 ⊢
      refine ⟨?_, ?_⟩
      · rw [List.map_cons, List.filterMap_cons, List.filterMap_cons, e, h1]
      · rw [List.map_cons, List.filter_cons, List.filter_cons, e]; split <;> simp [h2]
  obtain ⟨e2, e3⟩ := aux L.later fun n hn => (h n hn).2.1
  refine ⟨by show (nums (L.later.map f)).Pairwise _; rw [e1]; exact w.num, fun n hn => ?_, w.ev, by show ∀ s ∈ srcs (L.later.map f), _; rw [e2]; exact w.src, by show (srcs (L.later.map f)).Nodup; rw [e2]; exact w.nd, by show L.elder.length + owns (L.later.map f) ≤ B; rw [e3]; exact w.sz, fun n hn => ?_⟩
  · obtain ⟨m, hm, rfl⟩ := List.mem_map.mp hn
    rw [(h m hm).1]; exact w.lo m hm
  · obtain ⟨m, hm, rfl⟩ := List.mem_map.mp hn
    exact (h m hm).2.2
/-- one new line is changed, the list of what was typed but for its address -/
def updN (L : Led) (n' : NL) : Led := { L with later := L.later.map fun y => if y.number = n'.number then n' else y }
theorem LedP.upNew (P : LedP C S H a L B da l1 l2 l3 d os ns) {x : Addr × Addr × NL} {n' : NL} {dx : Addr} (hx : x ∈ ns) (h1 : n'.number = x.2.2.number) (h2 : n'.source = x.2.2.source) (h3 : n'.typed = x.2.2.typed)
    (hq : H x.1 = some (.ins C.n dx (nF x.2.2 x.2.1))) : LedP C S (upd H x.1 (.ins C.n dx (nF n' x.2.1))) a (updN L n') B da l1 l2 l3 d os (ns.map fun y => if y.2.2.number = n'.number then (y.1, y.2.1, n') else y) := by
  have map1 : ns.map (fun y => (if y.2.2.number = n'.number then (y.1, y.2.1, n') else y).1) = ns.map (·.1) := List.map_congr_left fun y _ => by split <;> rfl
  have map2 : ns.map (fun y => (if y.2.2.number = n'.number then (y.1, y.2.1, n') else y).2.1) = ns.map (·.2.1) := List.map_congr_left fun y _ => by split <;> rfl
  refine ⟨keepAt P.ob hq (by intro z; injection z with z1 _ _; exact C.nl z1.symm), P.el, ?_, keepAt P.e hq (by intro z; cases z), ?_, keepAt P.f hq (by intro z; cases z), ?_, fun j y hy => ?_, fun y hy => ?_, ?_, P.sa, P.so, fun y hy => ?_, ?_, ?_⟩
  · show L.later.map _ = _
    rw [P.la, List.map_map, List.map_map]
    refine List.map_congr_left fun y _ => ?_
    simp only [Function.comp]
    split <;> rfl
  · have e : (ns.map fun y => if y.2.2.number = n'.number then (y.1, y.2.1, n') else y).map (fun x => V.ref x.1) = ns.map fun x => V.ref x.1 := by
      rw [List.map_map]; exact List.map_congr_left fun y _ => by simp only [Function.comp]; split <;> rfl
    rw [e]; exact keepAt P.n hq (by intro z; cases z)
  · exact P.ah.stay (fun o h => by
      obtain ⟨tps, _, hd, _⟩ := P.ah
      rw [upd_ne (ne_of hd hq (by intro z; cases z))]; exact h) (Tups.mut (by rw [hq]; trivial))
  · obtain ⟨dy, h⟩ := P.po j y hy
    exact ⟨dy, keepAt h hq (by intro z; injection z with z1 _ _; exact C.on z1)⟩
  · obtain ⟨z, hz, rfl⟩ := List.mem_map.mp hy
    obtain ⟨⟨dz, hz1⟩, hz2⟩ := P.qo z hz
    by_cases e : z.2.2.number = n'.number
    · obtain rfl := num_inj P.wf P.la hz hx (e.trans h1)
      rw [if_pos e]
      refine ⟨⟨dx, upd_same⟩, ?_⟩
      show upd H z.1 _ z.2.1 = some (.lst (n'.typed.map V.str))
      rw [h3]; exact keepAt hz2 hq (by intro z; cases z)
    · rw [if_neg e]
      refine ⟨⟨dz, keepAt hz1 hq ?_⟩, keepAt hz2 hq (by intro z; cases z)⟩
      intro q
      injection q with _ _ q
      have q1 : V.int z.2.2.number = V.int x.2.2.number := by
        have := congrArg (List.lookup ("number" : Str)) q
        have e1 : (nF z.2.2 z.2.1).lookup ("number" : Str) = some (.int z.2.2.number) := rfl
        have e2 : (nF x.2.2 x.2.1).lookup ("number" : Str) = some (.int x.2.2.number) := rfl
        rw [e1, e2] at this; exact Option.some.inj this
      injection q1 with q1
      exact e (q1.trans h1.symm)
  · rw [List.map_map]
    have : (ns.map ((·.2.1) ∘ fun y => if y.2.2.number = n'.number then (y.1, y.2.1, n') else y)) = ns.map (·.2.1) := map2
    rw [this]; exact P.ld
  · obtain ⟨z, hz, rfl⟩ := List.mem_map.mp hy
    have := P.sn z hz
    split <;> exact this
  · intro y hy
    by_cases e : y = x.1
    · rw [e, upd_same] at hy; cases hy
    · rw [upd_ne e] at hy; exact P.dom y hy
  · refine P.wf.map fun m hm => ?_
    rw [P.la] at hm
    obtain ⟨z, hz, rfl⟩ := List.mem_map.mp hm
    by_cases e : z.2.2.number = n'.number
    · obtain rfl := num_inj P.wf P.la hz hx (e.trans h1)
      rw [if_pos e]
      refine ⟨h1, h2, ?_⟩
      rw [h3]; exact P.wf.ty _ (by rw [P.la]; exact List.mem_map.mpr ⟨z, hz, rfl⟩)
    · rw [if_neg e]
      exact ⟨rfl, rfl, P.wf.ty _ (by rw [P.la]; exact List.mem_map.mpr ⟨z, hz, rfl⟩)⟩
/-- one old line is changed -/
theorem LedP.upOld (P : LedP C S H a L B da l1 l2 l3 d os ns) {x : Addr × OL} {o' : OL} {j : Nat} {dx : Addr} (hx : os[j]? = some x) (hq : H x.1 = some (.ins C.o dx (oF ((j : Int) + 1) x.2))) :
    LedP C S (upd H x.1 (.ins C.o dx (oF ((j : Int) + 1) o'))) a { L with elder := L.elder.set j o' } B da l1 l2 l3 d (os.set j (x.1, o')) ns := by
  have hjl := (List.getElem?_eq_some_iff.mp hx).1
  refine ⟨keepAt P.ob hq (by intro z; injection z with z1 _ _; exact C.ol z1.symm), ?_, P.la, ?_, keepAt P.n hq (by intro z; cases z), keepAt P.f hq (by intro z; cases z), ?_, fun i y hy => ?_, fun y hy => ?_, P.ld, P.sa, fun y hy => ?_, P.sn, ?_, ?_⟩
  · show L.elder.set j o' = _
    rw [P.el, List.map_set]
  · have e : (os.set j (x.1, o')).map (fun x => V.ref x.1) = os.map fun x => V.ref x.1 := by
      rw [List.map_set]
      refine List.ext_getElem? fun i => ?_
      by_cases e : i = j
      · subst e
        rw [List.getElem?_set_self (by rw [List.length_map]; exact hjl), List.getElem?_map, hx]; rfl
      · rw [List.getElem?_set_ne (Ne.symm e)]
    rw [e]; exact keepAt P.e hq (by intro z; cases z)
  · exact P.ah.stay (fun o h => by
      obtain ⟨tps, _, hd, _⟩ := P.ah
      rw [upd_ne (ne_of hd hq (by intro z; cases z))]; exact h) (Tups.mut (by rw [hq]; trivial))
  · by_cases e : i = j
    · subst e
      rw [List.getElem?_set_self hjl] at hy
      cases hy
      exact ⟨dx, upd_same⟩
    · rw [List.getElem?_set_ne (Ne.symm e)] at hy
      obtain ⟨dy, h⟩ := P.po i y hy
      refine ⟨dy, keepAt h hq ?_⟩
      intro q
      injection q with _ _ q
      have := congrArg (List.lookup ("number" : Str)) q
      have e1 : (oF ((i : Int) + 1) y.2).lookup ("number" : Str) = some (.int ((i : Int) + 1)) := rfl
      have e2 : (oF ((j : Int) + 1) x.2).lookup ("number" : Str) = some (.int ((j : Int) + 1)) := rfl
      rw [e1, e2] at this
      have := Option.some.inj this
      injection this with this
      omega
  · obtain ⟨⟨dy, h1⟩, h2⟩ := P.qo y hy
    exact ⟨⟨dy, keepAt h1 hq (by intro z; injection z with z1 _ _; exact C.on z1.symm)⟩, keepAt h2 hq (by intro z; cases z)⟩
  · rcases List.mem_or_eq_of_mem_set hy with h | h
    · exact P.so y h
    · rw [h]; exact P.so x (List.mem_of_getElem? hx)
  · intro y hy
    by_cases e : y = x.1
    · rw [e, upd_same] at hy; cases hy
    · rw [upd_ne e] at hy; exact P.dom y hy
  · have w := P.wf
    exact ⟨w.num, w.lo, w.ev, by show ∀ s ∈ srcs L.later, 1 ≤ s ∧ s ≤ ((L.elder.set j o').length : Int); rw [List.length_set]; exact w.src, w.nd, by show (L.elder.set j o').length + _ ≤ B; rw [List.length_set]; exact w.sz, w.ty⟩
/-- tuples stand where all but two mutable things stand -/
theorem tups_of {H H' : Hp} {p q : Addr} (hp : Mut (H p)) (hq : Mut (H q)) (k : ∀ b o, H b = some o → b ≠ p → b ≠ q → H' b = some o) : Tups H H' :=
  ⟨fun b xs e => k b _ e (fun z => by rw [z] at e; rw [e] at hp; exact hp) (fun z => by rw [z] at e; rw [e] at hq; exact hq), fun b o xs e => k b _ e (fun z => by rw [z] at e; rw [e] at hp; exact hp) (fun z => by rw [z] at e; rw [e] at hq; exact hq)⟩
/-- an old line is added -/
theorem LedP.addOld (P : LedP C S H a L B da l1 l2 l3 d os ns) {x dx : Addr} {o : OL} {B' : Nat} (hx : H' x = some (.ins C.o dx (oF ((os.length : Int) + 1) o))) (hn : H x = none)
    (h1 : H' l1 = some (.lst (os.map (fun x => V.ref x.1) ++ [.ref x]))) (k : ∀ b o, H b = some o → b ≠ l1 → H' b = some o) (hd : ∀ b, H' b = none → H b = none) (w : L.elder.length + 1 + owns L.later ≤ B') (hB : B ≤ B') :
    LedP C S H' a { L with elder := L.elder ++ [o] } B' da l1 l2 l3 d (os ++ [(x, o)]) ns := by
  have n3 := nd3 P.ld
  have t : Tups H H' := tups_of (p := l1) (q := l1) (by rw [P.e]; trivial) (by rw [P.e]; trivial) fun b o e n _ => k b o e n
  refine ⟨k _ _ P.ob (ne_of P.ob P.e (by intro z; cases z)), ?_, P.la, ?_, k _ _ P.n n3.1.symm, k _ _ P.f n3.2.1.symm, P.ah.stay (fun o h => k _ o h (by
      obtain ⟨tps, _, hd, _⟩ := P.ah
      exact ne_of hd P.e (by intro z; cases z))) t, fun j y hy => ?_, fun y hy => ?_, P.ld, P.sa, fun y hy => ?_, P.sn, fun b hb => P.dom b (hd b hb), ?_⟩
  · show L.elder ++ [o] = _
    rw [P.el, List.map_append]; rfl
  · rw [h1, List.map_append]; rfl
  · by_cases e : j < os.length
    · rw [List.getElem?_append_left e] at hy
      obtain ⟨dy, h⟩ := P.po j y hy
      exact ⟨dy, k _ _ h (ne_of h P.e (by intro z; cases z))⟩
    · rw [List.getElem?_append_right (by omega)] at hy
      have e0 : j - os.length = 0 := by
        by_cases z : j - os.length = 0
        · exact z
        · exfalso
          rw [List.getElem?_eq_none (by simp; omega)] at hy; cases hy
      rw [e0] at hy
      cases hy
      have e1 : (j : Int) = (os.length : Int) := by omega
      rw [e1]; exact ⟨dx, hx⟩
  · obtain ⟨⟨dy, h1⟩, h2⟩ := P.qo y hy
    exact ⟨⟨dy, k _ _ h1 (ne_of h1 P.e (by intro z; cases z))⟩, k _ _ h2 (n3.2.2.2.1 y hy).1.symm⟩
  · rcases List.mem_append.mp hy with h | h
    · exact P.so y h
    · cases List.mem_singleton.mp h; exact P.dom _ hn
  · have w0 := P.wf
    refine ⟨w0.num, w0.lo, w0.ev, fun s hs => ?_, w0.nd, ?_, fun n hn => Nat.le_trans (w0.ty n hn) hB⟩
    · have := w0.src s hs
      show 1 ≤ s ∧ s ≤ ((L.elder ++ [o]).length : Int)
      rw [List.length_append]; simp; omega
    · show (L.elder ++ [o]).length + owns L.later ≤ B'
      rw [List.length_append]; simpa using w
/-- a new line is added -/
theorem LedP.addNew (P : LedP C S H a L B da l1 l2 l3 d os ns) {x dx t : Addr} {n : NL} {B' : Nat} (hx : H' x = some (.ins C.n dx (nF n t))) (hn : H x = none) (ht : H' t = some (.lst [])) (hnt : H t = none) (hty : n.typed = [])
    (h0 : H' a = some (.ins C.l da (lF l1 l2 l3 d (L.ever + 1)))) (h1 : H' l2 = some (.lst (ns.map (fun x => V.ref x.1) ++ [.ref x]))) (k : ∀ b o, H b = some o → b ≠ a → b ≠ l2 → H' b = some o) (hd : ∀ b, H' b = none → H b = none)
    (w : WF { L with later := L.later ++ [n], ever := L.ever + 1 } B') : LedP C S H' a { L with later := L.later ++ [n], ever := L.ever + 1 } B' da l1 l2 l3 d os (ns ++ [(x, t, n)]) := by
  have n3 := nd3 P.ld
  have tu : Tups H H' := tups_of (p := a) (q := l2) (by rw [P.ob]; trivial) (by rw [P.n]; trivial) k
  refine ⟨h0, P.el, ?_, k _ _ P.e (ne_of P.e P.ob (by intro z; cases z)) n3.1, ?_, k _ _ P.f (ne_of P.f P.ob (by intro z; cases z)) n3.2.2.1.symm, P.ah.stay (fun o h => by
      obtain ⟨tps, _, hd, _⟩ := P.ah
      exact k _ o h (ne_of hd P.ob (by intro z; cases z)) (ne_of hd P.n (by intro z; cases z))) tu, fun j y hy => ?_, fun y hy => ?_, ?_, P.sa, P.so, fun y hy => ?_, fun b hb => P.dom b (hd b hb), w⟩
  · show L.later ++ [n] = _
    rw [P.la, List.map_append]; rfl
  · rw [h1, List.map_append]; rfl
  · obtain ⟨dy, h⟩ := P.po j y hy
    exact ⟨dy, k _ _ h (ne_of h P.ob (by intro z; injection z with z1 _ _; exact C.ol z1)) (ne_of h P.n (by intro z; cases z))⟩
  · rcases List.mem_append.mp hy with hy | hy
    · obtain ⟨⟨dy, h1⟩, h2⟩ := P.qo y hy
      exact ⟨⟨dy, k _ _ h1 (ne_of h1 P.ob (by intro z; injection z with z1 _ _; exact C.nl z1)) (ne_of h1 P.n (by intro z; cases z))⟩, k _ _ h2 (ne_of h2 P.ob (by intro z; cases z)) (n3.2.2.2.1 y hy).2.1.symm⟩
    · cases List.mem_singleton.mp hy
      exact ⟨⟨dx, hx⟩, by show H' t = some (.lst (n.typed.map V.str)); rw [hty]; exact ht⟩
  · have h := P.ld
    have hm : ∀ z ∈ l1 :: l2 :: l3 :: ns.map (·.2.1), z ≠ t := by
      intro z hz e
      subst e
      rcases List.mem_cons.mp hz with e | hz
      · rw [e, P.e] at hnt; cases hnt
      rcases List.mem_cons.mp hz with e | hz
      · rw [e, P.n] at hnt; cases hnt
      rcases List.mem_cons.mp hz with e | hz
      · rw [e, P.f] at hnt; cases hnt
      obtain ⟨y, hy, e⟩ := List.mem_map.mp hz
      have := (P.qo y hy).2
      rw [e, hnt] at this; cases this
    have e : l1 :: l2 :: l3 :: (ns ++ [(x, t, n)]).map (·.2.1) = (l1 :: l2 :: l3 :: ns.map (·.2.1)) ++ [t] := by simp
    rw [e, List.nodup_append]
    exact ⟨h, by simp, fun z hz y hy => by cases List.mem_singleton.mp hy; exact hm z hz⟩
  · rcases List.mem_append.mp hy with hy | hy
    · exact P.sn y hy
    · cases List.mem_singleton.mp hy; exact ⟨P.dom _ hn, P.dom _ hnt⟩
theorem nd_inj {α β : Type} {f : α → β} : ∀ {l : List α}, (l.map f).Nodup → ∀ {x y : α}, x ∈ l → y ∈ l → f x = f y → x = y
  | [], _, _, _, hx, _, _ => absurd hx (List.not_mem_nil)
  | z :: r, h, x, y, hx, hy, e => by
    rw [List.map_cons, List.nodup_cons] at h
    rcases List.mem_cons.mp hx with hx | hx <;> rcases List.mem_cons.mp hy with hy | hy
    · rw [hx, hy]
    · exact absurd (List.mem_map.mpr ⟨y, hy, by rw [← hx, e]⟩) h.1
    · exact absurd (List.mem_map.mpr ⟨x, hx, by rw [← hy, e]⟩) h.1
    · exact nd_inj h.2 hx hy e
theorem keepN {H H' : Hp} {x y : Addr} {o o0 : HO} (k : ∀ b o, H b = some o → b ≠ y → H' b = some o) (hx : H x = some o) (hy : H y = some o0) (d : o ≠ o0) : H' x = some o := k x o hx (ne_of hx hy d)
/-- one new line is changed, what was typed in it too -/
theorem LedP.upNewT (P : LedP C S H a L B da l1 l2 l3 d os ns) {x : Addr × Addr × NL} {n' : NL} {dx : Addr} {B' : Nat} (hx : x ∈ ns) (h1 : n'.number = x.2.2.number) (h2 : n'.source = x.2.2.source)
    (hq : H x.1 = some (.ins C.n dx (nF x.2.2 x.2.1))) (hq' : H' x.1 = some (.ins C.n dx (nF n' x.2.1))) (ht' : H' x.2.1 = some (.lst (n'.typed.map V.str))) (k : ∀ b o, H b = some o → b ≠ x.1 → b ≠ x.2.1 → H' b = some o) (hd : ∀ b, H' b = none → H b = none)
    (hB : B ≤ B') (hl : n'.typed.length ≤ B') : LedP C S H' a (updN L n') B' da l1 l2 l3 d os (ns.map fun y => if y.2.2.number = n'.number then (y.1, y.2.1, n') else y) := by
  have n3 := nd3 P.ld
  have ht := (P.qo x hx).2
  have tu : Tups H H' := tups_of (p := x.1) (q := x.2.1) (by rw [hq]; trivial) (by rw [ht]; trivial) k
  have map2 : ns.map (fun y => (if y.2.2.number = n'.number then (y.1, y.2.1, n') else y).2.1) = ns.map (·.2.1) := List.map_congr_left fun y _ => by split <;> rfl
  have nex : ∀ {o : HO} {b : Addr}, H b = some o → o ≠ .ins C.n dx (nF x.2.2 x.2.1) → b ≠ x.1 := fun h n => ne_of h hq n
  have net : ∀ {o : HO} {b : Addr}, H b = some o → o ≠ .lst (x.2.2.typed.map V.str) → b ≠ x.2.1 := fun h n => ne_of h ht n
  refine ⟨k _ _ P.ob (nex P.ob (by intro z; injection z with z1 _ _; exact C.nl z1.symm)) (net P.ob (by intro z; cases z)), P.el, ?_, k _ _ P.e (nex P.e (by intro z; cases z)) (n3.2.2.2.1 x hx).1, ?_, k _ _ P.f (nex P.f (by intro z; cases z)) (n3.2.2.2.1 x hx).2.2, ?_, fun j y hy => ?_, fun y hy => ?_, ?_, P.sa, P.so, fun y hy => ?_, fun b hb => P.dom b (hd b hb), ?_⟩
  · show L.later.map _ = _
    rw [P.la, List.map_map, List.map_map]
    refine List.map_congr_left fun y _ => ?_
    simp only [Function.comp]
    split <;> rfl
  · have e : (ns.map fun y => if y.2.2.number = n'.number then (y.1, y.2.1, n') else y).map (fun x => V.ref x.1) = ns.map fun x => V.ref x.1 := by
      rw [List.map_map]; exact List.map_congr_left fun y _ => by simp only [Function.comp]; split <;> rfl
    rw [e]; exact k _ _ P.n (nex P.n (by intro z; cases z)) (n3.2.2.2.1 x hx).2.1
  · exact P.ah.stay (fun o h => by
      obtain ⟨tps, _, hd, _⟩ := P.ah
      exact k _ o h (nex hd (by intro z; cases z)) (net hd (by intro z; cases z))) tu
  · obtain ⟨dy, h⟩ := P.po j y hy
    exact ⟨dy, k _ _ h (nex h (by intro z; injection z with z1 _ _; exact C.on z1)) (net h (by intro z; cases z))⟩
  · obtain ⟨z, hz, rfl⟩ := List.mem_map.mp hy
    obtain ⟨⟨dz, hz1⟩, hz2⟩ := P.qo z hz
    by_cases e : z.2.2.number = n'.number
    · obtain rfl := num_inj P.wf P.la hz hx (e.trans h1)
      rw [if_pos e]
      exact ⟨⟨dx, hq'⟩, ht'⟩
    · rw [if_neg e]
      have nz : z.2.1 ≠ x.2.1 := fun q => e (by rw [nd_inj n3.2.2.2.2 hz hx q]; exact h1.symm)
      refine ⟨⟨dz, k _ _ hz1 (nex hz1 ?_) (net hz1 (by intro z; cases z))⟩, k _ _ hz2 (nex hz2 (by intro z; cases z)) nz⟩
      intro q
      injection q with _ _ q
      have q1 : V.int z.2.2.number = V.int x.2.2.number := by
        have := congrArg (List.lookup ("number" : Str)) q
        have e1 : (nF z.2.2 z.2.1).lookup ("number" : Str) = some (.int z.2.2.number) := rfl
        have e2 : (nF x.2.2 x.2.1).lookup ("number" : Str) = some (.int x.2.2.number) := rfl
        rw [e1, e2] at this; exact Option.some.inj this
      injection q1 with q1
      exact e (q1.trans h1.symm)
  · rw [List.map_map]
    have : (ns.map ((·.2.1) ∘ fun y => if y.2.2.number = n'.number then (y.1, y.2.1, n') else y)) = ns.map (·.2.1) := map2
    rw [this]; exact P.ld
  · obtain ⟨z, hz, rfl⟩ := List.mem_map.mp hy
    have := P.sn z hz
    split <;> exact this
  · refine (P.wf.mono hB).map fun m hm => ?_
    rw [P.la] at hm
    obtain ⟨z, hz, rfl⟩ := List.mem_map.mp hm
    by_cases e : z.2.2.number = n'.number
    · obtain rfl := num_inj P.wf P.la hz hx (e.trans h1)
      rw [if_pos e]
      exact ⟨h1, h2, hl⟩
    · rw [if_neg e]
      exact ⟨rfl, rfl, Nat.le_trans (P.wf.ty _ (by rw [P.la]; exact List.mem_map.mpr ⟨z, hz, rfl⟩)) hB⟩
/-! ### the deeds, in plain data -/
theorem setOld_eq {L : Led} {n : Int} {j : Nat} {o : OL} {f : OL → OL} (hn : n = (j : Int) + 1) (h : L.elder[j]? = some o) : setOld L n f = { L with elder := L.elder.set j (f o) } := by
  unfold setOld
  have e : (n - 1).toNat = j := by omega
  rw [e]
  congr 1
  refine List.ext_getElem? fun i => ?_
  rw [List.getElem?_modify, List.getElem?_set]
  by_cases q : j = i
  · subst q
    have hl := (List.getElem?_eq_some_iff.mp h).1
    rw [h, if_pos rfl, if_pos hl]
    show some (if j = j then f o else o) = some (f o)
    rw [if_pos rfl]
  · simp [q]
theorem setNew_eq {f : NL → NL} (w : WF L B) (la : L.later = ns.map (·.2.2)) {x : Addr × Addr × NL} (hx : x ∈ ns) (hf : (f x.2.2).number = x.2.2.number) : setNew L x.2.2.number f = updN L (f x.2.2) := by
  unfold setNew updN
  congr 1
  rw [hf]
  refine List.map_congr_left fun y hy => ?_
  rw [la] at hy
  obtain ⟨z, hz, rfl⟩ := List.mem_map.mp hy
  by_cases e : z.2.2.number = x.2.2.number
  · obtain rfl := num_inj w la hz hx e
    simp
  · simp [e]
theorem WF.own (w : WF L B) (l : Int) : WF (putM L l 0 none) (B + 1) := by
  have e1 : nums (putM L l 0 none).later = nums L.later ++ [L.ever + 1] := by simp [putM, nums]
  have e2 : srcs (putM L l 0 none).later = srcs L.later := by simp [putM, srcs]
  have e3 : owns (putM L l 0 none).later = owns L.later + 1 := by simp [putM, owns]
  refine ⟨?_, fun n hn => ?_, ?_, ?_, ?_, ?_, fun n hn => ?_⟩
  · rw [e1, List.pairwise_append]
    refine ⟨w.num, by simp, fun a ha b hb => ?_⟩
    cases List.mem_singleton.mp hb
    obtain ⟨m, hm, rfl⟩ := List.mem_map.mp ha
    have := (w.lo m hm).2
    omega
  · rcases List.mem_append.mp hn with hn | hn
    · have := w.lo n hn
      exact ⟨this.1, by show n.number ≤ L.ever + 1; omega⟩
    · cases List.mem_singleton.mp hn
      have := w.ev
      exact ⟨by show 1 ≤ L.ever + 1; omega, by show L.ever + 1 ≤ L.ever + 1; omega⟩
  · have := w.ev; show 0 ≤ L.ever + 1; omega
  · rw [e2]; exact w.src
  · rw [e2]; exact w.nd
  · rw [e3]; have := w.sz; show L.elder.length + (owns L.later + 1) ≤ B + 1; omega
  · rcases List.mem_append.mp hn with hn | hn
    · exact Nat.le_trans (w.ty n hn) (Nat.le_succ B)
    · cases List.mem_singleton.mp hn
      exact Nat.zero_le _
theorem Keep.weak {S T : Addr → Prop} (h : ∀ x, T x → S x) (k : Keep T H H') : Keep S H H' := ⟨fun b o e n => k.keep b o e fun t => n (h b t), k.tups⟩
/-- other places may be touched from now on -/
theorem LedP.sub {T : Addr → Prop} (P : LedP C S H a L B da l1 l2 l3 d os ns) (s : Same H H') (hs : ∀ x o, H x = some o → S x → T x) (hd : Dom T H') : LedP C T H' a L B da l1 l2 l3 d os ns := by
  have p := P.same s
  obtain ⟨_, _, hah, _⟩ := P.ah
  exact ⟨p.ob, p.el, p.la, p.e, p.n, p.f, p.ah, p.po, p.qo, p.ld, ⟨hs _ _ P.ob P.sa.1, hs _ _ P.e P.sa.2.1, hs _ _ P.n P.sa.2.2.1, hs _ _ P.f P.sa.2.2.2.1, hs _ _ hah P.sa.2.2.2.2⟩,
    fun x hx => by
      obtain ⟨j, hj⟩ := List.mem_iff_getElem?.mp hx
      obtain ⟨dx, h⟩ := P.po j x hj
      exact hs _ _ h (P.so x hx),
    fun x hx => by
      obtain ⟨⟨dx, h1⟩, h2⟩ := P.qo x hx
      exact ⟨hs _ _ h1 (P.sn x hx).1, hs _ _ h2 (P.sn x hx).2⟩, hd, p.wf⟩
theorem LedAt.same (h : LedAt C S H a L B) (s : Same H H') : LedAt C S H' a L B := by
  obtain ⟨_, _, _, _, _, _, _, p⟩ := h
  exact ⟨_, _, _, _, _, _, _, p.same s⟩
theorem LedAt.sub {T : Addr → Prop} (h : LedAt C S H a L B) (s : Same H H') (hs : ∀ x o, H x = some o → S x → T x) (hd : Dom T H') : LedAt C T H' a L B := by
  obtain ⟨_, _, _, _, _, _, _, p⟩ := h
  exact ⟨_, _, _, _, _, _, _, p.sub s hs hd⟩
theorem LedAt.stay (h : LedAt C S H a L B) (k : ∀ b o, H b = some o → S b → H' b = some o) (t : Tups H H') (hd : Dom S H') : LedAt C S H' a L B := by
  obtain ⟨_, _, _, _, _, _, _, p⟩ := h
  exact ⟨_, _, _, _, _, _, _, p.stay k t hd⟩
theorem LedAt.mono {B' : Nat} (h : LedAt C S H a L B) (hb : B ≤ B') : LedAt C S H a L B' := by
  obtain ⟨_, _, _, _, _, _, _, p⟩ := h
  exact ⟨_, _, _, _, _, _, _, p.mono hb⟩
end
end M

/-! # lemmas for a run's steps -/
namespace M
open PySem L2
theorem makeGo_snoc {there : List Int} {all : Bool} {o : OL} : ∀ {os : List OL} {k : Nat} {L : Led}, makeGo there all k (os ++ [o]) L = makeTurn there all (makeGo there all k os L) (k + os.length) o
  | [], k, L => by simp [makeGo]
  | x :: os, k, L => by
    have ih := makeGo_snoc (there := there) (all := all) (o := o) (os := os) (k := k + 1) (L := makeTurn there all L k x)
    rw [List.cons_append]
    simp only [makeGo]
    rw [ih, List.length_cons]
    have e : k + 1 + os.length = k + (os.length + 1) := by omega
    rw [e]
theorem WF.made {L : Led} {B : Nat} (w : WF L B) {l st s : Int} {fs : List Int} (h : s ∉ srcs L.later) (h1 : 1 ≤ s) (h2 : s ≤ L.elder.length) : WF { putM L l st (some s) with fresh := fs } B := by
  have e1 : nums (L.later ++ [⟨L.ever + 1, l, st, some s, 0, none, []⟩]) = nums L.later ++ [L.ever + 1] := by simp [nums]
  have e2 : srcs (L.later ++ [⟨L.ever + 1, l, st, some s, 0, none, []⟩]) = srcs L.later ++ [s] := by simp [srcs]
  have e3 : owns (L.later ++ [⟨L.ever + 1, l, st, some s, 0, none, []⟩]) = owns L.later := by simp [owns]
  refine ⟨?_, fun n hn => ?_, ?_, ?_, ?_, ?_, fun n hn => ?_⟩
  · show (nums (L.later ++ [_])).Pairwise _
    rw [e1, List.pairwise_append]
    refine ⟨w.num, by simp, fun a ha b hb => ?_⟩
    cases List.mem_singleton.mp hb
    obtain ⟨m, hm, rfl⟩ := List.mem_map.mp ha
    have := (w.lo m hm).2
    omega
  · rcases List.mem_append.mp hn with hn | hn
    · have := w.lo n hn
      exact ⟨this.1, by show n.number ≤ L.ever + 1; omega⟩
    · cases List.mem_singleton.mp hn
      have := w.ev
      exact ⟨by show 1 ≤ L.ever + 1; omega, by show L.ever + 1 ≤ L.ever + 1; omega⟩
  · have := w.ev; show 0 ≤ L.ever + 1; omega
  · show ∀ x ∈ srcs (L.later ++ [_]), _
    rw [e2]
    intro x hx
    rcases List.mem_append.mp hx with hx | hx
    · exact w.src x hx
    · cases List.mem_singleton.mp hx; exact ⟨h1, h2⟩
  · show (srcs (L.later ++ [_])).Nodup
    rw [e2, List.nodup_append]
    exact ⟨w.nd, by simp, fun a ha b hb e => h (by cases List.mem_singleton.mp hb; rw [← e]; exact ha)⟩
  · show L.elder.length + owns (L.later ++ [_]) ≤ B
    rw [e3]; exact w.sz
  · rcases List.mem_append.mp hn with hn | hn
    · exact w.ty n hn
    · cases List.mem_singleton.mp hn; exact Nat.zero_le _
/-- what a make has done behind i old lines -/
theorem makeGo_inv {there : List Int} {all : Bool} {L : Led} {B : Nat} (w : WF L B) (ht : ∀ s ∈ srcs L.later, s ∈ there) : ∀ i : Nat, i ≤ L.elder.length →
    WF (makeGo there all 0 (L.elder.take i) L) B ∧ (makeGo there all 0 (L.elder.take i) L).elder = L.elder ∧ ∀ s ∈ srcs (makeGo there all 0 (L.elder.take i) L).later, s ∈ there ∨ s ≤ i
  | 0, _ => ⟨w, rfl, fun s hs => .inl (ht s hs)⟩
  | i + 1, hi => by
    obtain ⟨h1, h2, h3⟩ := makeGo_inv (all := all) w ht i (by omega)
    have hg := List.getElem?_eq_getElem (show i < L.elder.length by omega)
    rw [List.take_add_one, hg]
    have e : L.elder.take i ++ (some L.elder[i]).toList = L.elder.take i ++ [L.elder[i]] := rfl
    rw [e, makeGo_snoc, List.length_take, Nat.min_eq_left (by omega), Nat.zero_add]
    generalize makeGo there all 0 (L.elder.take i) L = G at h1 h2 h3 ⊢
    unfold makeTurn
    split
    · rename_i c
      have hs : ((i : Int) + 1) ∉ srcs G.later := fun h => by
        rcases h3 _ h with h | h
        · exact c.1 h
        · omega
      refine ⟨h1.made hs (by omega) (by rw [h2]; omega), h2, fun s hs' => ?_⟩
      have e2 : srcs (G.later ++ [⟨G.ever + 1, L.elder[i].label, L.elder[i].closing, some ((i : Int) + 1), 0, none, []⟩]) = srcs G.later ++ [(i : Int) + 1] := by simp [srcs]
      have hs' : s ∈ srcs (G.later ++ [⟨G.ever + 1, L.elder[i].label, L.elder[i].closing, some ((i : Int) + 1), 0, none, []⟩]) := hs'
      rw [e2] at hs'
      rcases List.mem_append.mp hs' with h | h
      · rcases h3 _ h with h | h
        · exact .inl h
        · exact .inr (by omega)
      · cases List.mem_singleton.mp h; exact .inr (by omega)
    · exact ⟨h1, h2, fun s hs => (h3 s hs).elim .inl fun h => .inr (by omega)⟩
theorem makeGo_fresh {there : List Int} {all : Bool} : ∀ {os : List OL} {k : Nat} {L : Led}, (makeGo there all k os L).fresh.length ≤ L.fresh.length + os.length
  | [], _, L => by simp [makeGo]
  | o :: os, k, L => by
    have ih := makeGo_fresh (there := there) (all := all) (os := os) (k := k + 1) (L := makeTurn there all L k o)
    have h : (makeTurn there all L k o).fresh.length ≤ L.fresh.length + 1 := by
      unfold makeTurn
      split
      · show (L.fresh ++ [L.ever + 1]).length ≤ _
        simp
      · omega
    simp only [makeGo, List.length_cons]
    omega
section
variable {C : C3} {S : Addr → Prop} {H H' : Hp} {a : Addr} {L : Led} {B : Nat} {da l1 l2 l3 d : Addr} {os : List (Addr × OL)} {ns : NS}
/-- the fresh numbers are changed -/
theorem LedP.upFresh (P : LedP C S H a L B da l1 l2 l3 d os ns) {fs : List Int} {L' : Led} (e : L' = { L with fresh := fs }) : LedP C S (upd H l3 (.lst (fs.map V.int))) a L' B da l1 l2 l3 d os ns := by
  subst e
  have n3 := nd3 P.ld
  have k : ∀ b o, H b = some o → b ≠ l3 → upd H l3 (.lst (fs.map V.int)) b = some o := fun b o e n => by rw [upd_ne n]; exact e
  refine ⟨k _ _ P.ob (ne_of P.ob P.f (by intro z; cases z)), P.el, P.la, k _ _ P.e n3.2.1, k _ _ P.n n3.2.2.1, upd_same, P.ah.stay (fun o h => k _ o h (by
      obtain ⟨tps, _, hd, _⟩ := P.ah
      exact ne_of hd P.f (by intro z; cases z))) (Tups.mut (by rw [P.f]; trivial)), fun j y hy => ?_, fun y hy => ?_, P.ld, P.sa, P.so, P.sn, fun b hb => ?_, ?_⟩
  · obtain ⟨dy, h⟩ := P.po j y hy
    exact ⟨dy, k _ _ h (ne_of h P.f (by intro z; cases z))⟩
  · obtain ⟨⟨dy, h1⟩, h2⟩ := P.qo y hy
    exact ⟨⟨dy, k _ _ h1 (ne_of h1 P.f (by intro z; cases z))⟩, k _ _ h2 (n3.2.2.2.1 y hy).2.2.symm⟩
  · by_cases e : b = l3
    · rw [e, upd_same] at hb; cases hb
    · rw [upd_ne e] at hb; exact P.dom b hb
  · have w := P.wf
    exact ⟨w.num, w.lo, w.ev, w.src, w.nd, w.sz, w.ty⟩
/-- the new lines are thinned -/
theorem LedP.setLater (P : LedP C S H a L B da l1 l2 l3 d os ns) {m : Addr} {f : NL → Bool} (hm : H' m = some (.lst ((ns.filter fun x => f x.2.2).map fun x => V.ref x.1))) (nm : H m = none) (h0 : H' a = some (.ins C.l da (lF l1 m l3 d L.ever))) (k : ∀ b o, H b = some o → b ≠ a → H' b = some o)
    (hd : ∀ b, H' b = none → H b = none) : LedP C S H' a { L with later := L.later.filter f } B da l1 m l3 d os (ns.filter fun x => f x.2.2) := by
  have n3 := nd3 P.ld
  have tu : Tups H H' := tups_of (p := a) (q := a) (by rw [P.ob]; trivial) (by rw [P.ob]; trivial) fun b o e n _ => k b o e n
  have el : L.later.filter f = (ns.filter fun x => f x.2.2).map (·.2.2) := by rw [P.la, List.filter_map]; rfl
  refine ⟨h0, P.el, el, k _ _ P.e (ne_of P.e P.ob (by intro z; cases z)), hm, k _ _ P.f (ne_of P.f P.ob (by intro z; cases z)), P.ah.stay (fun o h => by
      obtain ⟨tps, _, hd, _⟩ := P.ah
      exact k _ o h (ne_of hd P.ob (by intro z; cases z))) tu, fun j y hy => ?_, fun y hy => ?_, ?_, ⟨P.sa.1, P.sa.2.1, P.dom _ nm, P.sa.2.2.2⟩, P.so, fun y hy => P.sn y (List.mem_filter.mp hy).1, fun b hb => P.dom b (hd b hb), ?_⟩
  · obtain ⟨dy, h⟩ := P.po j y hy
    exact ⟨dy, k _ _ h (ne_of h P.ob (by intro z; injection z with z1 _ _; exact C.ol z1))⟩
  · obtain ⟨⟨dy, h1⟩, h2⟩ := P.qo y (List.mem_filter.mp hy).1
    exact ⟨⟨dy, k _ _ h1 (ne_of h1 P.ob (by intro z; injection z with z1 _ _; exact C.nl z1))⟩, k _ _ h2 (ne_of h2 P.ob (by intro z; cases z))⟩
  · have sub : ((ns.filter fun x => f x.2.2).map (·.2.1)).Sublist (ns.map (·.2.1)) := List.filter_sublist.map _
    have h := P.ld
    simp only [List.nodup_cons, List.mem_cons, not_or] at h ⊢
    obtain ⟨⟨g1, g2, g3⟩, ⟨g4, g5⟩, g6, g7⟩ := h
    have nmt : ∀ z, H z ≠ none → z ≠ m := fun z hz e => hz (by rw [e]; exact nm)
    refine ⟨⟨nmt _ (by rw [P.e]; simp), g2, fun z => g3 (sub.subset z)⟩, ⟨(nmt _ (by rw [P.f]; simp)).symm, fun z => ?_⟩, fun z => g6 (sub.subset z), g7.sublist sub⟩
    obtain ⟨y, hy, e⟩ := List.mem_map.mp (sub.subset z)
    have := (P.qo y hy).2
    exact nmt _ (by rw [this]; simp) e
  · have w := P.wf
    have s1 : (L.later.filter f).Sublist L.later := List.filter_sublist
    refine ⟨w.num.sublist (s1.map _), fun n hn => w.lo n (s1.subset hn), w.ev, fun s hs => w.src s ((s1.filterMap _).subset hs), w.nd.sublist (s1.filterMap _), ?_, fun n hn => w.ty n (s1.subset hn)⟩
    have : owns (L.later.filter f) ≤ owns L.later := (s1.filter _).length_le
    have := w.sz
    show L.elder.length + owns (L.later.filter f) ≤ B
    omega
/-- some new lines are changed -/
def updTo (ks : List Int) (u : NL → NL) (l : List NL) : List NL := l.map fun n => if n.number ∈ ks then u n else n
theorem updTo_nil {u : NL → NL} {l : List NL} : updTo [] u l = l := by simp [updTo]
theorem updTo_step {ks : List Int} {u : NL → NL} {l : List NL} {x : NL} (hn : (nums l).Pairwise (· < ·)) (hx : x ∈ l) (hu : ∀ n, (u n).number = n.number) : (updTo ks u l).map (fun y => if y.number = (u x).number then u x else y) = updTo (ks ++ [x.number]) u l := by
  unfold updTo
  rw [List.map_map]
  refine List.map_congr_left fun y hy => ?_
  have inj : y.number = x.number → y = x := fun e => by
    have nd : (l.map NL.number).Nodup := hn.imp fun h e => by rw [e] at h; exact Int.lt_irrefl _ h
    exact nd_inj nd hy hx e
  have e1 : (if y.number ∈ ks then u y else y).number = y.number := by split <;> first | exact hu y | rfl
  simp only [Function.comp, e1, hu, List.mem_append, List.mem_singleton]
  by_cases e : y.number = x.number
  · rw [if_pos e, if_pos (.inr e), inj e]
  · rw [if_neg e]
    by_cases h : y.number ∈ ks
    · rw [if_pos h, if_pos (.inl h)]
    · rw [if_neg h, if_neg (by rintro (z | z); exact h z; exact e z)]
theorem updTo_same {ks : List Int} {u : NL → NL} {l : List NL} {x : NL} (hn : (nums l).Pairwise (· < ·)) (hx : x ∈ l) (h : u x = x) : updTo (ks ++ [x.number]) u l = updTo ks u l := by
  unfold updTo
  refine List.map_congr_left fun y hy => ?_
  have inj : y.number = x.number → y = x := fun e => by
    have nd : (l.map NL.number).Nodup := hn.imp fun h e => by rw [e] at h; exact Int.lt_irrefl _ h
    exact nd_inj nd hy hx e
  simp only [List.mem_append, List.mem_singleton]
  by_cases e : y.number = x.number
  · rw [if_pos (.inr e), inj e, h]; split <;> rfl
  · by_cases h : y.number ∈ ks
    · rw [if_pos h, if_pos (.inl h)]
    · rw [if_neg h, if_neg (by rintro (z | z); exact h z; exact e z)]
theorem updTo_all {ks : List Int} {u : NL → NL} {l : List NL} (h : ∀ n ∈ l, n.number ∉ ks → u n = n) : updTo ks u l = l.map u := by
  unfold updTo
  refine List.map_congr_left fun y hy => ?_
  split
  · rfl
  · rename_i c; exact (h y hy c).symm
/-- a new list of fresh numbers and a new dict of what stood ahead of the run -/
theorem LedP.reroot (P : LedP C S H a L B da l1 l2 l3 d os ns) {m e : Addr} {ah : List (Int × Int × Option Int)} (h0 : H' a = some (.ins C.l da (lF l1 l2 m e L.ever))) (hm : H' m = some (.lst [])) (nm : H m = none) (ne : H e = none) (ha : AhAt H' e ah)
    (k : ∀ b o, H b = some o → b ≠ a → H' b = some o) (hd : ∀ b, H' b = none → H b = none) : LedP C S H' a { L with fresh := [], ahead := ah } B da l1 l2 m e os ns := by
  have n3 := nd3 P.ld
  refine ⟨h0, P.el, P.la, k _ _ P.e (ne_of P.e P.ob (by intro z; cases z)), k _ _ P.n (ne_of P.n P.ob (by intro z; cases z)), hm, ha, fun j y hy => ?_, fun y hy => ?_, ?_, ⟨P.sa.1, P.sa.2.1, P.sa.2.2.1, P.dom _ nm, P.dom _ ne⟩, P.so, P.sn, fun b hb => P.dom b (hd b hb), ?_⟩
  · obtain ⟨dy, h⟩ := P.po j y hy
    exact ⟨dy, k _ _ h (ne_of h P.ob (by intro z; injection z with z1 _ _; exact C.ol z1))⟩
  · obtain ⟨⟨dy, h1⟩, h2⟩ := P.qo y hy
    exact ⟨⟨dy, k _ _ h1 (ne_of h1 P.ob (by intro z; injection z with z1 _ _; exact C.nl z1))⟩, k _ _ h2 (ne_of h2 P.ob (by intro z; cases z))⟩
  · have h := P.ld
    simp only [List.nodup_cons, List.mem_cons, not_or] at h ⊢
    obtain ⟨⟨g1, g2, g3⟩, ⟨g4, g5⟩, g6, g7⟩ := h
    have nmt : ∀ z, H z ≠ none → z ≠ m := fun z hz e => hz (by rw [e]; exact nm)
    refine ⟨⟨g1, nmt _ (by rw [P.e]; simp), g3⟩, ⟨nmt _ (by rw [P.n]; simp), g5⟩, fun z => ?_, g7⟩
    obtain ⟨y, hy, e⟩ := List.mem_map.mp z
    have := (P.qo y hy).2
    exact nmt _ (by rw [this]; simp) e
  · have w := P.wf
    exact ⟨w.num, w.lo, w.ev, w.src, w.nd, w.sz, w.ty⟩
end
theorem ahead_go {H : Hp} : ∀ (ah : List (Int × Int × Option Int)) (tps : List Addr), tps.length = ah.length → (∀ (i : Nat) (x : Int × Int × Option Int) (t : Addr), ah[i]? = some x → tps[i]? = some t → H t = some (.tup [.int x.2.1, tv x.2.2])) → ∀ k : Int,
    (ah.find? (fun x => x.1 == k) = none → valV ((ah.zip tps).map fun x => ((Sum.inl x.1.1 : Key), V.ref x.2)) (Sum.inl k) = none) ∧
    ∀ e, ah.find? (fun x => x.1 == k) = some e → ∃ t, valV ((ah.zip tps).map fun x => ((Sum.inl x.1.1 : Key), V.ref x.2)) (Sum.inl k) = some (.ref t) ∧ H t = some (.tup [.int e.2.1, tv e.2.2])
  | [], tps, _, _, k => ⟨fun _ => by simp [valV], fun e h => by simp at h⟩
  | a :: ah, [], hl, _, k => by simp at hl
  | a :: ah, t :: tps, hl, h, k => by
    have ih := ahead_go ah tps (by simpa using hl) (fun i x u e1 e2 => h (i + 1) x u (by simpa using e1) (by simpa using e2)) k
    by_cases e : a.1 = k
    · refine ⟨fun h0 => ?_, fun e0 h0 => ⟨t, ?_, ?_⟩⟩
      · rw [List.find?_cons_of_pos (by simpa using e)] at h0; cases h0
      · rw [List.zip_cons_cons, List.map_cons]
        exact valV_pos (by show (Sum.inl a.1 : Key) = Sum.inl k; rw [e])
      · rw [List.find?_cons_of_pos (by simpa using e)] at h0
        cases h0
        exact h 0 _ t rfl rfl
    · have ne : ¬ ((Sum.inl a.1 : Key), V.ref t).1 = Sum.inl k := by intro z; injection z with z; exact e z
      have e1 : valV (((a :: ah).zip (t :: tps)).map fun x => ((Sum.inl x.1.1 : Key), V.ref x.2)) (Sum.inl k) = valV ((ah.zip tps).map fun x => ((Sum.inl x.1.1 : Key), V.ref x.2)) (Sum.inl k) := by
        rw [List.zip_cons_cons, List.map_cons]
        exact valV_neg ne
      rw [e1, List.find?_cons_of_neg (by simpa using e)]
      exact ih
/-- what stood ahead of the run, looked up -/
theorem ahead_get {H : Hp} {d : Addr} {ah : List (Int × Int × Option Int)} (h : AhAt H d ah) : ∃ kvs, H d = some (.dK kvs) ∧ ∀ k : Int, (ah.find? (fun x => x.1 == k) = none → valV kvs (Sum.inl k) = none) ∧ ∀ e, ah.find? (fun x => x.1 == k) = some e → ∃ t, valV kvs (Sum.inl k) = some (.ref t) ∧ H t = some (.tup [.int e.2.1, tv e.2.2]) := by
  obtain ⟨tps, h1, h2, h3⟩ := h
  exact ⟨_, h2, ahead_go ah tps h1 h3⟩
end M

namespace L2
open PySem PySem.Spec PyProof.Rows
/-- the turns of enumerate(list) -/
theorem for_enumL {K : PySem.W.Frag} {a : Addr} {xs : List V} {g : TG} {tb : TS} {D : Ends} {σ : St} {H : Hp} (Pv : Nat → St → Hp → Prop) (h0 : Pv 0 σ H) (hl : ∀ i σ H, i ≤ xs.length → Pv i σ H → SqL K H a xs)
    (hs : ∀ i x T σ H, xs[i]? = some x → Pv i σ H → H T = none → g (.ref T) σ (upd H T (.tup [.int (i : Nat), x])) fun σ2 H2 => tb { D with nx := Pv (i + 1), ct := Pv (i + 1), bk := D.nx } σ2 H2) (hd : ∀ σ H, Pv xs.length σ H → D.nx σ H) :
    ∃ W : Nat → Nat → St → Hp → Prop, (∃ m, W 0 m σ H) ∧ ∀ i m σ H, W i m σ H →
      ((Ite K a).stop i H ∧ D.nx σ H) ∨ ((Ite K a).go i H ∧ ∃ N : St → Hp → Prop, (∀ σ' H', N σ' H' → ∃ m', m' < m ∧ W (i + 1) m' σ' H') ∧ ∀ x H', (Ite K a).yld i H x H' → g x σ H' fun σ2 H2 => tb { D with nx := N, ct := N, bk := D.nx } σ2 H2) := by
  refine ⟨fun i m σ H => m = xs.length - i ∧ i ≤ xs.length ∧ Pv i σ H, ⟨xs.length, by simp, Nat.zero_le _, h0⟩, ?_⟩
  rintro i m σ H ⟨rfl, hi, p⟩
  have q := hl i σ H hi p
  by_cases hlt : i < xs.length
  · refine .inr ⟨⟨xs, xs[i], q, by simp [hlt]⟩, Pv (i + 1), fun σ' H' p' => ⟨xs.length - (i + 1), by omega, rfl, hlt, p'⟩, fun x H' y => ?_⟩
    obtain ⟨T, x', rfl, hT, rfl, hx⟩ := y
    exact hs i x' T σ H (hx xs q) p hT
  · have e : i = xs.length := by omega
    subst e
    exact .inl ⟨⟨xs, q, Nat.le_refl _⟩, hd σ H p⟩
/-! ### a list of anything != an empty one -/
def rNeE (K : PySem.W.Frag) : R2 := fun x y H Q => ∃ a b xs, x = .ref a ∧ y = .ref b ∧ SqL K H a xs ∧ SqL K H b [] ∧ Q (.bl (!xs.isEmpty)) H
theorem op_neE {X : Cx} (K : PySem.W.Frag) (hu : X.A.units + 65 < cLine) (hK : X.K = K := by rfl) : OpR X (compareOp .NotEq) (rNeE K) := by
  subst hK
  intro pins s σ H x y v u Q I rx ry h
  obtain ⟨a, b, xs, rfl, rfl, ha, hb, q⟩ := h
  obtain rfl : v = Value.ref a := rx
  obtain rfl : u = Value.ref b := ry
  obtain ⟨its, rv, pl, _⟩ := I.list ha
  obtain ⟨its2, rv2, pl2, _⟩ := I.list hb
  have e2 := rv2.length
  have e1 := rv.length
  obtain rfl : its2 = [] := List.length_eq_zero_iff.mp (by simpa using e2.symm)
  cases xs with
  | nil =>
    obtain rfl : its = [] := List.length_eq_zero_iff.mp (by simpa using e1.symm)
    refine PySem.SeqAt.RcNeAt.lists (e := fun _ => true) pl.isList pl2.isList rfl (by omega) (fun j h1 h2 => absurd h1 (by simp)) X.prog X.w _ _ ?_
    exact ⟨.bl _, H, I, rfl, q⟩
  | cons x xs =>
    refine PySem.SeqAt.RcNeAt.lists_lengths pl.isList pl2.isList ?_ (by omega) X.prog X.w _ _ ?_
    · have : its.length ≠ 0 := by rw [← e1]; simp
      simpa using this
    · exact ⟨.bl _, H, I, rfl, q⟩
theorem DpAll.snoc {K : PySem.W.Frag} {H : Hp} : ∀ {ys : List V} {ds : List PyData} {v : V} {d : PyData}, DpAll K H ys ds → Dp K H v d → DpAll K H (ys ++ [v]) (ds ++ [d]) := fun h1 h2 => h1.append (.one h2)
theorem immAll_take : ∀ {ds : List PyData} (n : Nat), immAll ds = true → immAll (ds.take n) = true
  | _, 0, _ => rfl
  | [], _ + 1, _ => rfl
  | d :: ds, n + 1, h => by
    simp only [immAll, Bool.and_eq_true] at h
    simp only [List.take_succ_cons, immAll, Bool.and_eq_true]
    exact ⟨h.1, immAll_take n h.2⟩
theorem immAll_get : ∀ {ds : List PyData} {n : Nat} {d : PyData}, immAll ds = true → ds[n]? = some d → imm d = true
  | [], _, _, _, e => by simp at e
  | d :: ds, 0, _, h, e => by
    simp only [immAll, Bool.and_eq_true] at h
    simp at e; subst e; exact h.1
  | d :: ds, n + 1, x, h, e => by
    simp only [immAll, Bool.and_eq_true] at h
    exact immAll_get (n := n) (d := x) h.2 (by simpa using e)
/-- [e(x) for x in l], data of each -/
theorem lcMap {K : PySem.W.Frag} {tl te : TE} {i : Nat} {σ : St} {H : Hp} {Q : VK} {l : Addr} {xs : List V} {ds : List PyData} (htl : ∀ Q : VK, Q (.ref l) H → tl σ H Q) (hl : SqL K H l xs) (hlen : ds.length = xs.length) (hz : xs.length < 100000) (hi : immAll ds = true)
    (hw : ∀ x, wipe ((wipe σ [i]).set i (some x)) [i] = wipe σ [i]) (each : ∀ (j : Nat) x d H', xs[j]? = some x → ds[j]? = some d → Same H H' → Gv K te ((wipe σ [i]).set i (some x)) H' d)
    (q : ∀ D ys H', H D = none → Same H H' → H' D = some (.lst ys) → DpAll K H' ys ds → Q (.ref D) H') : tLc (iList K tl) (gName i) tYes te [i] σ H Q := by
  refine htl _ ⟨l, rfl, ⟨_, hl⟩, fun D nD => ?_⟩
  have sl : ∀ {H' : Hp}, Same H H' → SqL K H' l xs := fun {H'} s => by
    rcases hl with (h | ⟨o, h⟩) | h
    · exact .inl (.inl (s _ _ h))
    · exact .inl (.inr ⟨o, s _ _ h⟩)
    · exact .inr h
  refine lc_list (K := K) (a := l) (xs := xs) (fun j H' => Same H H' ∧ ∃ ys, H' D = some (.lst ys) ∧ DpAll K H' ys (ds.take j)) ⟨Same.new nD, [], upd_same, .nil⟩ (fun j H' _ h => sl h.1) ?_ ?_
  · rintro j x H' hx ⟨s, ys, hD, hys⟩
    have hj : j < ds.length := by rw [hlen]; exact (List.getElem?_eq_some_iff.mp hx).1
    have hd := List.getElem?_eq_getElem hj
    refine ⟨hw x, ?_⟩
    refine Gv.go (each j x _ H' hx hd s) fun v H2 s2 hv => ⟨ys, s2 _ _ hD, ?_, ?_⟩
    · refine line_lt ?_
      rw [hys.length, List.length_take]; omega
    · have t : Tups H2 (upd H2 D (.lst (ys ++ [v]))) := Tups.mut (by rw [s2 _ _ hD]; trivial)
      refine ⟨(s.trans s2).mut nD, _, upd_same, ?_⟩
      rw [List.take_add_one, hd]
      exact (t.dpAll (immAll_take j hi) (s2.dpAll hys)).snoc (t.dp (immAll_get hi hd) hv)
  · rintro H' ⟨s, ys, hD, hys⟩
    rw [← hlen, List.take_length] at hys
    exact q D ys H' nD s hD hys
theorem SqL.same {K : PySem.W.Frag} {H H' : Hp} {l : Addr} {xs : List V} (hl : SqL K H l xs) (s : Same H H') : SqL K H' l xs := by
  rcases hl with (h | ⟨o, h⟩) | h
  · exact .inl (.inl (s _ _ h))
  · exact .inl (.inr ⟨o, s _ _ h⟩)
  · exact .inr h
/-- [g(x) for x in l if f(x)] -/
theorem lcFM {α : Type} {K : PySem.W.Frag} {tl te : TE} {tt : TT} {i : Nat} {σ : St} {H : Hp} {Q : VK} {l : Addr} (items : List α) (val g : α → V) (f : α → Bool) (htl : ∀ Q : VK, Q (.ref l) H → tl σ H Q) (hl : SqL K H l (items.map val)) (hz : items.length < 100000)
    (hw : ∀ x, wipe ((wipe σ [i]).set i (some x)) [i] = wipe σ [i])
    (each : ∀ (j : Nat) x H', items[j]? = some x → Same H H' → ∀ R : Bool → Hp → Prop, (∀ H2, Same H' H2 → R (f x) H2) → tt ((wipe σ [i]).set i (some (val x))) H' R)
    (each2 : ∀ (j : Nat) x H', items[j]? = some x → f x = true → Same H H' → ∀ R : VK, (∀ H2, Same H' H2 → R (g x) H2) → te ((wipe σ [i]).set i (some (val x))) H' R)
    (q : ∀ D H', H D = none → Same H H' → H' D = some (.lst ((items.filter f).map g)) → Q (.ref D) H') : tLc (iList K tl) (gName i) tt te [i] σ H Q := by
  refine htl _ ⟨l, rfl, ⟨_, hl⟩, fun D nD => ?_⟩
  refine lc_list (K := K) (a := l) (xs := items.map val) (fun j H' => Same H H' ∧ H' D = some (.lst (((items.take j).filter f).map g))) ⟨Same.new nD, upd_same⟩ (fun j H' _ h => hl.same h.1) ?_ ?_
  · rintro j x H' hx ⟨s, hD⟩
    rw [List.getElem?_map] at hx
    obtain ⟨y, hy, rfl⟩ := Option.map_eq_some_iff.mp hx
    have ht : items.take (j + 1) = items.take j ++ [y] := by rw [List.take_add_one, hy]; rfl
    refine ⟨hw _, ?_⟩
    refine each j y H' hy s _ fun H2 s2 => ?_
    by_cases hf : f y = true
    · rw [if_pos hf]
      refine each2 j y H2 hy hf (s.trans s2) _ fun H3 s3 => ⟨_, s3 _ _ (s2 _ _ hD), ?_, ((s.trans s2).trans s3).mut nD, ?_⟩
      · refine line_lt ?_
        rw [List.length_map]
        have h1 := List.length_filter_le f (items.take j)
        have h2 := List.length_take_le j items
        have h3 := List.length_take_le' j items
        omega
      · rw [upd_same, ht, List.filter_append, List.map_append]
        simp [hf]
    · rw [if_neg hf]
      refine ⟨s.trans s2, ?_⟩
      rw [s2 _ _ hD, ht, List.filter_append]
      simp [hf]
  · rintro H' ⟨s, hD⟩
    rw [List.length_map, List.take_length] at hD
    exact q D H' nD s hD
/-! ### one step at a time -/
theorem gName_app {i : Nat} {x : V} {σ : St} {H : Hp} {Q : St → Hp → Prop} : gName i x σ H Q = Q (σ.set i (some x)) H := rfl
theorem tAsg_app {te : TE} {g : TG} {D : Ends} {σ : St} {H : Hp} : tAsg te g D σ H = te σ H fun x H1 => g x σ H1 D.nx := rfl
theorem tSeq_app {t u : TS} {D : Ends} {σ : St} {H : Hp} : tSeq t u D σ H = t { D with nx := u D } σ H := rfl
theorem tRet_app {te : TE} {D : Ends} {σ : St} {H : Hp} : tRet te D σ H = te σ H D.rt := rfl
theorem tTup_app {ta : TA} {σ : St} {H : Hp} {Q : VK} : tTup ta σ H Q = ta σ H fun xs H1 => xs.length ≤ sizeLine ∧ ∀ p, H1 p = none → Q (.ref p) (upd H1 p (.tup xs)) := rfl
theorem tCons_app {te : TE} {ta : TA} {σ : St} {H : Hp} {Q : List V → Hp → Prop} : tCons te ta σ H Q = te σ H fun x H1 => ta σ H1 fun xs H2 => Q (x :: xs) H2 := rfl
end L2

namespace L2
open PySem PySem.Spec PyProof.Rows
/-- {k(x): g(x) for x in l if f(x)} -/
theorem dcFM {α : Type} {K : PySem.W.Frag} {tl tk te : TE} {tt : TT} {i : Nat} {σ : St} {H : Hp} {Q : VK} {l : Addr} (items : List α) (val g : α → V) (κ : α → Key) (f : α → Bool) (htl : ∀ Q : VK, Q (.ref l) H → tl σ H Q) (hl : SqL K H l (items.map val)) (hz : items.length < 100000)
    (hnd : ((items.filter f).map κ).Nodup) (hw : ∀ x, wipe ((wipe σ [i]).set i (some x)) [i] = wipe σ [i])
    (each : ∀ (j : Nat) x H', items[j]? = some x → Same H H' → ∀ R : Bool → Hp → Prop, (∀ H2, Same H' H2 → R (f x) H2) → tt ((wipe σ [i]).set i (some (val x))) H' R)
    (each1 : ∀ (j : Nat) x H', items[j]? = some x → f x = true → Same H H' → ∀ R : VK, (∀ H2, Same H' H2 → R (kV (κ x)) H2) → tk ((wipe σ [i]).set i (some (val x))) H' R)
    (each2 : ∀ (j : Nat) x H', items[j]? = some x → f x = true → Same H H' → ∀ R : VK, (∀ H2, Same H' H2 → R (g x) H2) → te ((wipe σ [i]).set i (some (val x))) H' R)
    (q : ∀ D H', H D = none → Same H H' → H' D = some (.dK ((items.filter f).map fun x => (κ x, g x))) → Q (.ref D) H') : tDc (iList K tl) (gName i) tt tk te [i] σ H Q := by
  refine htl _ ⟨l, rfl, ⟨_, hl⟩, fun D nD => ?_⟩
  have snoc : ∀ (ys : List α) (y : α), (ys.map κ ++ [κ y]).Nodup → putK (ys.map fun x => (κ x, g x)) (κ y) (g y) = ys.map (fun x => (κ x, g x)) ++ [(κ y, g y)] := by
    intro ys y h
    unfold putK
    rw [if_neg]
    intro h2
    obtain ⟨z, hz, e⟩ := List.any_eq_true.mp h2
    obtain ⟨x, hx, rfl⟩ := List.mem_map.mp hz
    have e : κ x = κ y := of_decide_eq_true e
    rw [List.nodup_append] at h
    exact h.2.2 _ (List.mem_map.mpr ⟨x, hx, rfl⟩) _ (List.mem_singleton.mpr rfl) e
  suffices h : ∃ W : Nat → Nat → Hp → Prop, (∃ m, W 0 m (upd H D (.dK []))) ∧ ∀ j m H', W j m H' →
      ((Itl K l).stop j H' ∧ Q (.ref D) H') ∨ ((Itl K l).go j H' ∧ ∃ Nx : Hp → Prop, (∀ H2, Nx H2 → ∃ m', m' < m ∧ W (j + 1) m' H2) ∧ ∀ x H2, (Itl K l).yld j H' x H2 → gName i x (wipe σ [i]) H2 fun σ2 H3 => wipe σ2 [i] = wipe σ [i] ∧ tt σ2 H3 fun b H4 =>
        if b = true then tk σ2 H4 fun y H5 => te σ2 H5 fun z H6 => ∃ kvs k, y = kV k ∧ H6 D = some (.dK kvs) ∧ kvs.length < sizeLine ∧ Nx (upd H6 D (.dK (putK kvs k z))) else Nx H4) from h
  let Pv : Nat → Hp → Prop := fun j H' => Same H H' ∧ H' D = some (.dK (((items.take j).filter f).map fun x => (κ x, g x)))
  refine ⟨fun j m H' => m = items.length - j ∧ j ≤ items.length ∧ Pv j H', ⟨items.length, by simp, Nat.zero_le _, Same.new nD, upd_same⟩, ?_⟩
  rintro j m H' ⟨rfl, hj, s, hD⟩
  have hl' := hl.same s
  by_cases hlt : j < items.length
  · have hy := List.getElem?_eq_getElem hlt
    refine .inr ⟨⟨_, _, hl', by rw [List.getElem?_map, hy]; rfl⟩, Pv (j + 1), fun H2 p => ⟨items.length - (j + 1), by omega, rfl, hlt, p⟩, ?_⟩
    rintro x H2 yl
    obtain ⟨rfl, hx⟩ := (show H2 = H' ∧ ∀ xs, SqL K H' l xs → xs[j]? = some x from yl)
    have hx := hx _ hl'
    rw [List.getElem?_map, hy] at hx
    cases hx
    have ht : items.take (j + 1) = items.take j ++ [items[j]] := by rw [List.take_add_one, hy]; rfl
    refine ⟨hw _, ?_⟩
    refine each j _ _ hy s _ fun H3 s3 => ?_
    by_cases hf : f items[j] = true
    · rw [if_pos hf]
      refine each1 j _ H3 hy hf (s.trans s3) _ fun H4 s4 => each2 j _ H4 hy hf ((s.trans s3).trans s4) _ fun H5 s5 => ⟨_, _, rfl, s5 _ _ (s4 _ _ (s3 _ _ hD)), ?_, (((s.trans s3).trans s4).trans s5).mut nD, ?_⟩
      · refine line_lt ?_
        rw [List.length_map]
        have h1 := List.length_filter_le f (items.take j)
        have h3 := List.length_take_le' j items
        omega
      · have nd : (((items.take j).filter f).map κ ++ [κ items[j]]).Nodup := by
          have e : ((items.take j).filter f).map κ ++ [κ items[j]] = ((items.take (j + 1)).filter f).map κ := by
            rw [ht, List.filter_append, List.map_append]; simp [hf]
          rw [e]
          have sub : ((items.take (j + 1)).filter f).map κ = ((items.filter f).map κ).take (((items.take (j + 1)).filter f).map κ).length := by
            have : items.filter f = (items.take (j + 1)).filter f ++ (items.drop (j + 1)).filter f := by rw [← List.filter_append, List.take_append_drop]
            rw [this, List.map_append, List.take_left]
          rw [sub]
          exact hnd.sublist (List.take_sublist _ _)
        rw [upd_same, snoc _ _ nd, ht, List.filter_append, List.map_append]
        simp [hf]
    · rw [if_neg hf]
      refine ⟨s.trans s3, ?_⟩
      rw [s3 _ _ hD, ht, List.filter_append]
      simp [hf]
  · have e : j = items.length := by omega
    subst e
    rw [List.take_length] at hD
    exact .inl ⟨⟨_, hl', by rw [List.length_map]; exact Nat.le_refl _⟩, q D H' nD s hD⟩
/-- the turns of d.values(), d locked -/
theorem for_valsD {d : Addr} {o : Obj} {kvs : List (Key × V)} {g : TG} {tb : TS} {D : Ends} {σ : St} {H : Hp} (Pv : Nat → St → Hp → Prop) (h0 : Pv 0 σ H) (hl : ∀ i σ H, i ≤ kvs.length → Pv i σ H → H d = some (.frz o (.dK kvs)))
    (hs : ∀ (i : Nat) k x σ H, kvs[i]? = some (k, x) → Pv i σ H → g x σ H fun σ2 H2 => tb { D with nx := Pv (i + 1), ct := Pv (i + 1), bk := D.nx } σ2 H2) (hd : ∀ σ H, Pv kvs.length σ H → D.nx σ H) :
    ∃ W : Nat → Nat → St → Hp → Prop, (∃ m, W 0 m σ H) ∧ ∀ i m σ H, W i m σ H →
      ((Itd d o kvs).stop i H ∧ D.nx σ H) ∨ ((Itd d o kvs).go i H ∧ ∃ N : St → Hp → Prop, (∀ σ' H', N σ' H' → ∃ m', m' < m ∧ W (i + 1) m' σ' H') ∧ ∀ x H', (Itd d o kvs).yld i H x H' → g x σ H' fun σ2 H2 => tb { D with nx := N, ct := N, bk := D.nx } σ2 H2) := by
  refine ⟨fun i m σ H => m = kvs.length - i ∧ i ≤ kvs.length ∧ Pv i σ H, ⟨kvs.length, by simp, Nat.zero_le _, h0⟩, ?_⟩
  rintro i m σ H ⟨rfl, hi, p⟩
  have q := hl i σ H hi p
  by_cases hlt : i < kvs.length
  · refine .inr ⟨⟨q, hlt⟩, Pv (i + 1), fun σ' H' p' => ⟨kvs.length - (i + 1), by omega, rfl, hlt, p'⟩, fun x H' y => ?_⟩
    obtain ⟨rfl, k, hk⟩ := (show H' = H ∧ ∃ k, kvs[i]? = some (k, x) from y)
    exact hs i k x σ H' hk p
  · have e : i = kvs.length := by omega
    subst e
    exact .inl ⟨⟨q, Nat.le_refl _⟩, hd σ H p⟩
theorem tups_frz {H : Hp} {m : Addr} {od : Obj} {kvs : List (Key × V)} {o : HO} (h : H m = some (.frz od (.dK kvs))) : Tups H (upd H m o) :=
  ⟨fun b xs e => by rw [upd_ne (ne_of e h (by intro z; cases z))]; exact e, fun b o xs e => by rw [upd_ne (ne_of e h (by intro z; cases z))]; exact e⟩
/-- {k(x): a new thing for x in l}: what is said of the things stands while tuples stand -/
theorem dcT {α : Type} {K : PySem.W.Frag} {tl tk te : TE} {i : Nat} {σ : St} {H : Hp} {Q : VK} {l : Addr} (items : List α) (val : α → V) (κ : α → Key) (G : α → V → Hp → Prop) (hG : ∀ x v H H', G x v H → Tups H H' → G x v H') (htl : ∀ Q : VK, Q (.ref l) H → tl σ H Q) (hl : SqL K H l (items.map val)) (hz : items.length < 100000)
    (hnd : (items.map κ).Nodup) (hw : ∀ x, wipe ((wipe σ [i]).set i (some x)) [i] = wipe σ [i])
    (each1 : ∀ (j : Nat) x H', items[j]? = some x → Same H H' → ∀ R : VK, (∀ H2, Same H' H2 → R (kV (κ x)) H2) → tk ((wipe σ [i]).set i (some (val x))) H' R)
    (each2 : ∀ (j : Nat) x H', items[j]? = some x → Same H H' → ∀ R : VK, (∀ v H2, Same H' H2 → G x v H2 → R v H2) → te ((wipe σ [i]).set i (some (val x))) H' R)
    (q : ∀ D vs H', H D = none → Same H H' → vs.length = items.length → H' D = some (.dK ((items.zip vs).map fun z => (κ z.1, z.2))) → (∀ (j : Nat) x v, items[j]? = some x → vs[j]? = some v → G x v H') → Q (.ref D) H') : tDc (iList K tl) (gName i) tYes tk te [i] σ H Q := by
  refine htl _ ⟨l, rfl, ⟨_, hl⟩, fun D nD => ?_⟩
  let Pv : Nat → Hp → Prop := fun j H' => Same H H' ∧ ∃ vs : List V, vs.length = j ∧ H' D = some (.dK (((items.take j).zip vs).map fun z => (κ z.1, z.2))) ∧ ∀ (r : Nat) x v, items[r]? = some x → vs[r]? = some v → G x v H'
  refine ⟨fun j m H' => m = items.length - j ∧ j ≤ items.length ∧ Pv j H', ⟨items.length, by simp, Nat.zero_le _, Same.new nD, [], rfl, upd_same, fun r x v _ h => by simp at h⟩, ?_⟩
  rintro j m H' ⟨rfl, hj, s, vs, lv, hD, hvs⟩
  have hl' := hl.same s
  by_cases hlt : j < items.length
  · have hy := List.getElem?_eq_getElem hlt
    refine .inr ⟨⟨_, _, hl', by rw [List.getElem?_map, hy]; rfl⟩, Pv (j + 1), fun H2 p => ⟨items.length - (j + 1), by omega, rfl, hlt, p⟩, ?_⟩
    rintro x H2 yl
    obtain ⟨rfl, hx⟩ := (show H2 = H' ∧ ∀ xs, SqL K H' l xs → xs[j]? = some x from yl)
    have hx := hx _ hl'
    rw [List.getElem?_map, hy] at hx
    cases hx
    refine ⟨hw _, ?_⟩
    simp only [tYes, if_true]
    refine each1 j _ _ hy s _ fun H4 s4 => each2 j _ H4 hy (s.trans s4) _ fun v H5 s5 hv => ?_
    have hD5 := s5 _ _ (s4 _ _ hD)
    have lz : ((items.take j).zip vs).length = j := by rw [List.length_zip, List.length_take, lv]; omega
    have tu : ∀ o, Tups H5 (upd H5 D o) := fun o => Tups.mut (by rw [hD5]; trivial)
    refine ⟨_, _, rfl, hD5, line_lt (by rw [List.length_map, lz]; omega), ((s.trans s4).trans s5).mut nD, vs ++ [v], by rw [List.length_append, lv]; rfl, ?_, ?_⟩
    · rw [upd_same]
      have ht : items.take (j + 1) = items.take j ++ [items[j]] := by rw [List.take_add_one, hy]; rfl
      have e1 : ((items.take j).zip vs).map (fun z => (κ z.1, z.2)) = ((items.take j).zip vs).map (fun z => (κ z.1, z.2)) := rfl
      have nk : ¬ (((((items.take j).zip vs).map fun z => (κ z.1, z.2)).any fun kv => decide (kv.1 = κ items[j])) = true) := by
        intro h
        obtain ⟨z, hz, e⟩ := List.any_eq_true.mp h
        obtain ⟨w, hw', rfl⟩ := List.mem_map.mp hz
        have e : κ w.1 = κ items[j] := of_decide_eq_true e
        have hm : w.1 ∈ items.take j := (List.of_mem_zip (a := w.1) (b := w.2) hw').1
        have nd : ((items.take j).map κ ++ [κ items[j]]).Nodup := by
          have : (items.take j).map κ ++ [κ items[j]] = (items.map κ).take (j + 1) := by rw [← List.map_take, ht, List.map_append]; rfl
          rw [this]; exact hnd.sublist (List.take_sublist _ _)
        rw [List.nodup_append] at nd
        exact nd.2.2 _ (List.mem_map.mpr ⟨w.1, hm, rfl⟩) _ (List.mem_singleton.mpr rfl) e
      unfold putK
      rw [if_neg nk, ht, List.zip_append (by rw [List.length_take, lv]; omega), List.map_append]
      rfl
    · intro r x u hr hu
      by_cases hrj : r < j
      · rw [List.getElem?_append_left (by omega)] at hu
        exact hG _ _ _ _ (hvs r x u hr hu) ((s4.tups.trans s5.tups).trans (tu _))
      · have hr0 : r - vs.length = 0 := by
          by_cases z : r - vs.length = 0
          · exact z
          · exfalso
            rw [List.getElem?_append_right (by omega), List.getElem?_eq_none (by simp; omega)] at hu; cases hu
        rw [List.getElem?_append_right (by omega), hr0] at hu
        cases hu
        obtain rfl : r = j := by omega
        rw [hy] at hr
        cases hr
        exact hG _ _ _ _ hv (tu _)
  · have e : j = items.length := by omega
    subst e
    rw [List.take_length] at hD
    exact .inl ⟨⟨_, hl', by rw [List.length_map]; exact Nat.le_refl _⟩, q D vs H' nD s lv hD hvs⟩
/-- [k for k in d if f(k)], d locked -/
theorem lcKeys {K : PySem.W.Frag} {td : TE} {tt : TT} {i : Nat} {σ : St} {H : Hp} {Q : VK} {d : Addr} {o : Obj} {kvs : List (Key × V)} (f : Key → Bool) (htd : ∀ Q : VK, Q (.ref d) H → td σ H Q) (hd : H d = some (.frz o (.dK kvs))) (hz : kvs.length < 100000)
    (hw : ∀ x, wipe ((wipe σ [i]).set i (some x)) [i] = wipe σ [i]) (hv : ∀ x, ((wipe σ [i]).set i (some x))[i]? = some (some x))
    (each : ∀ (k : Key) H', Same H H' → ∀ R : Bool → Hp → Prop, (∀ H2, Same H' H2 → R (f k) H2) → tt ((wipe σ [i]).set i (some (kV k))) H' R)
    (q : ∀ D H', H D = none → Same H H' → H' D = some (.lst (((kvs.map (·.1)).filter f).map kV)) → Q (.ref D) H') : tLc (iKeys td) (gName i) tt (tVar i) [i] σ H Q := by
  refine htd _ ⟨d, o, rfl, .inl ⟨kvs, hd, fun D nD => ?_⟩⟩
  let Pv : Nat → Hp → Prop := fun j H' => Same H H' ∧ H' D = some (.lst ((((kvs.take j).map (·.1)).filter f).map kV))
  refine ⟨fun j m H' => m = kvs.length - j ∧ j ≤ kvs.length ∧ Pv j H', ⟨kvs.length, by simp, Nat.zero_le _, Same.new nD, upd_same⟩, ?_⟩
  rintro j m H' ⟨rfl, hj, s, hD⟩
  have hd' := s _ _ hd
  by_cases hlt : j < kvs.length
  · have hy := List.getElem?_eq_getElem hlt
    refine .inr ⟨⟨hd', hlt⟩, Pv (j + 1), fun H2 p => ⟨kvs.length - (j + 1), by omega, rfl, hlt, p⟩, ?_⟩
    rintro x H2 yl
    obtain ⟨rfl, k, v, hk, rfl⟩ := (show H2 = H' ∧ ∃ k v, kvs[j]? = some (k, v) ∧ x = kV k from yl)
    refine ⟨hw _, ?_⟩
    have ht : kvs.take (j + 1) = kvs.take j ++ [(k, v)] := by rw [List.take_add_one, hk]; rfl
    refine each k _ s _ fun H3 s3 => ?_
    by_cases hf : f k = true
    · rw [if_pos hf]
      refine ⟨_, hv _, _, s3 _ _ hD, ?_, (s.trans s3).mut nD, ?_⟩
      · refine line_lt ?_
        rw [List.length_map]
        have h1 := List.length_filter_le f ((kvs.take j).map (·.1))
        rw [List.length_map, List.length_take] at h1
        omega
      · rw [upd_same, ht, List.map_append, List.filter_append, List.map_append]
        simp [hf]
    · rw [if_neg hf]
      refine ⟨s.trans s3, ?_⟩
      rw [s3 _ _ hD, ht, List.map_append, List.filter_append]
      simp [hf]
  · have e : j = kvs.length := by omega
    subst e
    rw [List.take_length] at hD
    exact .inl ⟨⟨hd', Nat.le_refl _⟩, q D H' nD s hD⟩
/-- [e(x) for x in a list that is made on the way], data of each -/
theorem lcMapN {K : PySem.W.Frag} {tl te : TE} {i : Nat} {σ : St} {H : Hp} {Q : VK} {xs : List V} {ds : List PyData} (htl : ∀ Q : VK, (∀ l H1, Same H H1 → H1 l = some (.lst xs) → Q (.ref l) H1) → tl σ H Q) (hlen : ds.length = xs.length) (hz : xs.length < 100000) (hi : immAll ds = true)
    (hw : ∀ x, wipe ((wipe σ [i]).set i (some x)) [i] = wipe σ [i]) (each : ∀ (j : Nat) x d H', xs[j]? = some x → ds[j]? = some d → Same H H' → Gv K te ((wipe σ [i]).set i (some x)) H' d)
    (q : ∀ D ys H', H D = none → Same H H' → H' D = some (.lst ys) → DpAll K H' ys ds → Q (.ref D) H') : tLc (iList K tl) (gName i) tYes te [i] σ H Q := by
  refine htl _ fun l H1 s1 hl => ?_
  have r := lcMap (K := K) (tl := fun σ H Q => Q (.ref l) H) (te := te) (i := i) (σ := σ) (H := H1) (Q := Q) (l := l) (xs := xs) (ds := ds) (fun Q hq => hq) (SqL.of hl) hlen hz hi hw (fun j x d H' h1 h2 s => each j x d H' h1 h2 (s1.trans s)) fun D ys H' nD s hD hys => q D ys H' (s1.free nD) (s1.trans s) hD hys
  exact r
end L2

/-! # a field as one of several targets -/
namespace L2
open PySem
section
variable {X : Cx} {o : Expr} {ta : TE} {f : Str} {pos' : Pos}
/-- o.f = v, one of several targets -/
def gFld (K : PySem.W.Frag) (ta : TE) (f : Str) : TG := fun v σ H Q => ta σ H fun x H1 => ∃ a C dx fs, x = .ref a ∧ H1 a = some (.ins C dx fs) ∧ Cls K C ∧ NoAttr K C f ∧ fs.length < 1000 ∧ Q σ (upd H1 a (.ins C dx (putF f v fs)))
theorem pg_fld (ha : PE X o ta) : PG X (.Attribute o f pos') (gFld X.K ta f) := by
  refine ⟨fun pins s σ H v u Q I r h => ?_⟩
  rw [assign_Attribute]
  refine wpAny_bind (wpAny_holding (thn (ha.run pins s σ H _ I h) fun ov s1 ⟨x, H1, I1, r1, a, C, dx, fs, ex, ea, c, n, l, q⟩ => ?_))
  subst ex
  obtain rfl : ov = Value.ref a := r1
  refine wpAny_bind (wpAny_standAt (wpAny_bind (wpAny_holding ?_)))
  exact setattr_ok I1 ea c n l r fun s3 I3 => wpAny_release ⟨σ, _, I3, q⟩
theorem pg_fldK (K : PySem.W.Frag) (ha : PE X o ta) (hK : X.K = K := by rfl) : PG X (.Attribute o f pos') (gFld K ta f) := by
  subst hK; exact pg_fld ha
/-- a list of anything == an empty one -/
def rEqE (K : PySem.W.Frag) : R2 := fun x y H Q => ∃ a b xs, x = .ref a ∧ y = .ref b ∧ SqL K H a xs ∧ SqL K H b [] ∧ Q (.bl xs.isEmpty) H
theorem op_eqE {X : Cx} (K : PySem.W.Frag) (hu : X.A.units + 65 < cLine) (hK : X.K = K := by rfl) : OpR X (compareOp .Eq) (rEqE K) := by
  subst hK
  intro pins s σ H x y v u Q I rx ry h
  obtain ⟨a, b, xs, rfl, rfl, ha, hb, q⟩ := h
  obtain rfl : v = Value.ref a := rx
  obtain rfl : u = Value.ref b := ry
  obtain ⟨its, rv, pl, _⟩ := I.list ha
  obtain ⟨its2, rv2, pl2, _⟩ := I.list hb
  have e2 := rv2.length
  have e1 := rv.length
  obtain rfl : its2 = [] := List.length_eq_zero_iff.mp (by simpa using e2.symm)
  cases xs with
  | nil =>
    obtain rfl : its = [] := List.length_eq_zero_iff.mp (by simpa using e1.symm)
    refine PySem.SeqAt.eq_listAt (e := fun _ => true) pl.isList pl2.isList rfl (by omega) (fun j h1 h2 => absurd h1 (by simp)) ?_
    exact ⟨.bl _, H, I, rfl, q⟩
  | cons x xs =>
    refine PySem.SeqAt.eq_list_lengthsAt pl.isList pl2.isList ?_ (by omega) ?_
    · have : its.length ≠ 0 := by rw [← e1]; simp
      simpa using this
    · exact ⟨.bl _, H, I, rfl, q⟩
end
section
variable {X : Cx} {CX : CXT} {k n : Nat} {C f : Addr} {fd : FuncData} {ps ks : List Str} {sp : Sp} {g : List Value → List Value → List Value} {gV : List V → List V → List V} {E : XK} {o : Expr} {m : Str} {apos pos : Pos} {ta : TE} {tk : TA} {kws : List Keyword}
/-- o.m(k = v, ..) -/
def tMethN (C : Addr) (m : Str) (n : Nat) (sp : Sp) (gV : List V → List V → List V) (E : XK) (ta : TE) (tk : TA) : TE := fun σ H Q => ta σ H fun x H1 => ∃ a dx fs, x = .ref a ∧ H1 a = some (.ins C dx fs) ∧ fs.lookup m = none ∧ tk σ H1 fun zs H2 => zs.length = n ∧ sp (gV [.ref a] zs) H2 Q E
theorem pe_methN {pl : Sem Bool} (he : PE X o ta) (c : Cls X.K C) (hm : Meth X.K C m f) (F : FnOk X.prog X.w X.K X.mg X.base CX k f fd ps sp) (hr : Room k X.A) (hb : KBn X.K fd ps 1 ks g gV) (hx : Passes CX X E) (hkw : PK X kws tk)
    (hall : (backToKw pos (keywordEach kws X.env)).all (·.1.isSome) = true := by rfl) (hks : (backToKw pos (keywordEach kws X.env)).filterMap (·.1) = ks := by rfl)
    (hpl : ((backTo pos (starEach [] X.env)).any (·.1) || (backToKw pos (keywordEach kws X.env)).any (·.1.isNone)) = false := by rfl)
    (ht : eval (.Call (.Attribute o m apos) [] kws pos) X.env = (do
      let ov ← eval o X.env
      standAt apos.atName
      let (f, first) ← holding [ov] (getMethod ov m pl)
      callWith pos f first (backTo pos (starEach [] X.env)) (backToKw pos (keywordEach kws X.env))) := by rfl) :
    PE X (.Call (.Attribute o m apos) [] kws pos) (tMethN C m ks.length sp gV E ta tk) := by
  refine ⟨fun pins s σ H Q I h => ?_⟩
  refine PySem.W.methodCall_KW (pl := pl) (thn (he.run pins s σ H _ I h) fun u s1 ⟨x, H1, I1, rx, a, dx, fs, ex, ea, l, q⟩ => ?_) ht
  subst ex
  obtain rfl : u = Value.ref a := rx
  refine getmeth_ok I1 ea c hm l ?_
  refine PySem.W.callWith_KW0 (first := [.ref a]) (h₀ := X.base) I.ok.mod.kin hm.kp hall ?_ hpl
  refine thn (hkw.run pos pins s1 σ H1 _ I1 q) fun ws s2 ⟨zs, H2, I2, rz, l2, q2⟩ => ⟨I2.kIn, ?_⟩
  rw [hks]
  exact run_fnN (us := [.ref a]) (vs := [.ref a]) F hr hb hx I2 (.cons rfl .nil) rz rfl l2 q2
end
end L2

/-! # Pure states: values without addresses; lists and dicts as cells -/
namespace Y
open PySem L2
inductive AV where
  | d (x : PyData)
  | tup (xs : List AV)
  | cel (i : Nat)
  | sub (i j : Nat)
  | scr (ds : List PyData)
  | ty (s : String)
  | dct
  | raw (a : Addr)
  | exn (a d : Addr) (f : Str) (x : AV)
/-- what a cell of its own kind says of its addresses -/
structure CPred where
  P : Hp → Hp → List Addr → Prop
  mono : ∀ {F F' H H' : Hp} {own : List Addr}, P F H own → Same F F' → (∀ b ∈ own, ∀ o, H b = some o → H' b = some o) → P F' H' own
inductive Cell where
  | l (ds : List PyData)
  | a (xs : List AV)
  | k (lk : Option (Obj × List (Key × V))) (kvs : List (Key × AV))
  | g (ix : List Nat) (rows : List (List PyData))
  | m (lk : Option Obj) (ks : List (Key × Nat)) (rows : List (List PyData))
  | x
  | o (φ : CPred)
abbrev Own := List (List Addr)
abbrev AEnv := List (Option AV)
def ScrA (K : PySem.W.Frag) (C : Addr) (F : Hp) (a : Addr) (ds : List PyData) : Prop := ∃ dx v, F a = some (.ins C dx (putF "kept_steps" v [])) ∧ Dp K F v (.tuple ds)
mutual
inductive AR (K : PySem.W.Frag) (C : Addr) (F : Hp) (as : Own) : AV → V → Prop
  | d {x : PyData} {v : V} : Dp K F v x → AR K C F as (.d x) v
  | tup {a : Addr} {vs : List V} {xs : List AV} : SqT K F a vs → ARs K C F as xs vs → AR K C F as (.tup xs) (.ref a)
  | cel {i : Nat} {p : Addr} {r : List Addr} : as[i]? = some (p :: r) → AR K C F as (.cel i) (.ref p)
  | sub {i j : Nat} {q : Addr} {own : List Addr} : as[i]? = some own → own[j + 1]? = some q → AR K C F as (.sub i j) (.ref q)
  | scr {a : Addr} {ds : List PyData} : ScrA K C F a ds → AR K C F as (.scr ds) (.ref a)
  | ty {s : String} : AR K C F as (.ty s) (.ty s)
  | dct {p : Addr} : F p = some (.dK []) → AR K C F as .dct (.ref p)
  | raw {a : Addr} : AR K C F as (.raw a) (.ref a)
  | exn {a d : Addr} {f : Str} {x : AV} {v : V} : F d = some (.xd [(f, v)]) → AR K C F as x v → AR K C F as (.exn a d f x) (.ref a)
inductive ARs (K : PySem.W.Frag) (C : Addr) (F : Hp) (as : Own) : List AV → List V → Prop
  | nil : ARs K C F as [] []
  | cons {x : AV} {v : V} {xs : List AV} {vs : List V} : AR K C F as x v → ARs K C F as xs vs → ARs K C F as (x :: xs) (v :: vs)
end
def Pre (as as' : Own) : Prop := ∀ (i : Nat) (own : List Addr), as[i]? = some own → ∃ r, as'[i]? = some (own ++ r)
section
variable {K : PySem.W.Frag} {C : Addr} {F F' H H' : Hp} {as as' : Own}
theorem ScrA.same {a : Addr} {ds : List PyData} (s : Same F F') (h : ScrA K C F a ds) : ScrA K C F' a ds := by
  obtain ⟨dx, v, h1, h2⟩ := h
  exact ⟨dx, v, s _ _ h1, s.dp h2⟩
mutual
theorem AR.mono (s : Same F F') (p : Pre as as') : ∀ {x : AV} {v : V}, AR K C F as x v → AR K C F' as' x v
  | .d _, _, h => by cases h with | d h => exact .d (s.dp h)
  | .tup _, _, h => by cases h with | tup h1 h2 => exact .tup (s.sqT h1) (ARs.mono s p h2)
  | .cel i, _, h => by
    cases h with | cel h =>
    obtain ⟨r, e⟩ := p _ _ h
    exact .cel e
  | .sub i j, _, h => by
    cases h with | sub h1 h2 =>
    obtain ⟨r, e⟩ := p _ _ h1
    exact .sub e (by rw [List.getElem?_append_left (List.getElem?_eq_some_iff.mp h2).1]; exact h2)
  | .scr _, _, h => by cases h with | scr h => exact .scr (h.same s)
  | .ty _, _, h => by cases h; exact .ty
  | .dct, _, h => by cases h with | dct h => exact .dct (s _ _ h)
  | .raw _, _, h => by cases h; exact .raw
  | .exn _ _ _ _, _, h => by cases h with | exn h1 h2 => exact .exn (s _ _ h1) (AR.mono s p h2)
theorem ARs.mono (s : Same F F') (p : Pre as as') : ∀ {xs : List AV} {vs : List V}, ARs K C F as xs vs → ARs K C F' as' xs vs
  | [], _, h => by cases h; exact .nil
  | x :: xs, _, h => by cases h with | cons h1 h2 => exact .cons (AR.mono s p h1) (ARs.mono s p h2)
end
theorem ARs.length : ∀ {xs : List AV} {vs : List V}, ARs K C F as xs vs → xs.length = vs.length
  | [], _, h => by cases h; rfl
  | x :: xs, _, h => by cases h with | cons _ h2 => simp [ARs.length h2]
theorem ARs.get : ∀ {xs : List AV} {vs : List V} {i : Nat} {x : AV}, ARs K C F as xs vs → xs[i]? = some x → ∃ v, vs[i]? = some v ∧ AR K C F as x v
  | [], _, _, _, _, e => by simp at e
  | x :: xs, _, 0, _, h, e => by
    cases h with | cons h1 h2 =>
    simp at e; subst e; exact ⟨_, rfl, h1⟩
  | x :: xs, _, i + 1, _, h, e => by
    cases h with | cons h1 h2 =>
    obtain ⟨v, e1, e2⟩ := ARs.get (i := i) h2 (by simpa using e)
    exact ⟨v, by simpa using e1, e2⟩
theorem ARs.append : ∀ {xs ys : List AV} {vs ws : List V}, ARs K C F as xs vs → ARs K C F as ys ws → ARs K C F as (xs ++ ys) (vs ++ ws)
  | [], _, _, _, h, g => by cases h; exact g
  | x :: xs, _, _, _, h, g => by cases h with | cons h1 h2 => exact .cons h1 (ARs.append h2 g)
theorem ARs.set : ∀ {xs : List AV} {vs : List V} {x : AV} {v : V} (i : Nat), ARs K C F as xs vs → AR K C F as x v → ARs K C F as (xs.set i x) (vs.set i v)
  | [], _, _, _, _, h, _ => by cases h; exact .nil
  | _ :: _, _, _, _, 0, h, g => by cases h with | cons h1 h2 => exact .cons g h2
  | _ :: _, _, _, _, i + 1, h, g => by cases h with | cons h1 h2 => exact .cons h1 (ARs.set i h2 g)
theorem ARs.take : ∀ {xs : List AV} {vs : List V} (n : Nat), ARs K C F as xs vs → ARs K C F as (xs.take n) (vs.take n)
  | _, _, 0, _ => by simp; exact .nil
  | [], _, n + 1, h => by cases h; exact .nil
  | _ :: _, _, n + 1, h => by cases h with | cons h1 h2 => exact .cons h1 (ARs.take n h2)
theorem ARs.data : ∀ {ds : List PyData} {vs : List V}, DpAll K F vs ds → ARs K C F as (ds.map AV.d) vs
  | [], _, h => by cases h; exact .nil
  | d :: ds, _, h => by cases h with | cons h1 h2 => exact .cons (.d h1) (ARs.data h2)
theorem ARs.toData : ∀ {ds : List PyData} {vs : List V}, ARs K C F as (ds.map AV.d) vs → DpAll K F vs ds
  | [], _, h => by cases h; exact .nil
  | d :: ds, _, h => by cases h with | cons h1 h2 => cases h1 with | d h1 => exact .cons h1 (ARs.toData h2)
theorem Pre.refl : Pre as as := fun i own h => ⟨[], by rw [List.append_nil]; exact h⟩
theorem Pre.trans {as'' : Own} (a : Pre as as') (b : Pre as' as'') : Pre as as'' := fun i own h => by
  obtain ⟨r, e⟩ := a i own h
  obtain ⟨q, e2⟩ := b i _ e
  exact ⟨r ++ q, by rw [e2, List.append_assoc]⟩
theorem Pre.snoc {own : List Addr} : Pre as (as ++ [own]) := fun i o h => ⟨[], by rw [List.getElem?_append_left (List.getElem?_eq_some_iff.mp h).1, List.append_nil]; exact h⟩
/-- rows of a grid -/
inductive GridOk (K : PySem.W.Frag) (F H : Hp) : List Addr → List (List PyData) → Prop
  | nil : GridOk K F H [] []
  | cons {q : Addr} {qs : List Addr} {vs : List V} {r : List PyData} {rs : List (List PyData)} : H q = some (.lst vs) → DpAll K F vs r → GridOk K F H qs rs → GridOk K F H (q :: qs) (r :: rs)
/-- locked or not -/
def lkO : Option Obj → HO → HO
  | none, u => u
  | some o, u => .frz o u
/-- while it is locked, what stood there -/
def lkK : Option (Obj × List (Key × V)) → List (Key × V) → Prop
  | none, _ => True
  | some x, kvs => kvs = x.2
def rowsV (qs : List Addr) (ix : List Nat) : List V := ix.map fun j => V.ref (qs.getD j 0)
def rowsK (qs : List Addr) (ks : List (Key × Nat)) : List (Key × V) := ks.map fun x => (x.1, V.ref (qs.getD x.2 0))
inductive CellOk (K : PySem.W.Frag) (C : Addr) (F : Hp) (as : Own) (H : Hp) : List Addr → Cell → Prop
  | l {p : Addr} {vs : List V} {ds : List PyData} : H p = some (.lst vs) → DpAll K F vs ds → CellOk K C F as H [p] (.l ds)
  | a {p : Addr} {vs : List V} {xs : List AV} : H p = some (.lst vs) → ARs K C F as xs vs → CellOk K C F as H [p] (.a xs)
  | k {p : Addr} {lk : Option (Obj × List (Key × V))} {kvs : List (Key × V)} {xs : List (Key × AV)} : lkK lk kvs → H p = some (lkO (lk.map Prod.fst) (.dK kvs)) → kvs.map Prod.fst = xs.map Prod.fst → ARs K C F as (xs.map Prod.snd) (kvs.map Prod.snd) → CellOk K C F as H [p] (.k lk xs)
  | g {p : Addr} {qs : List Addr} {ix : List Nat} {rows : List (List PyData)} : H p = some (.lst (rowsV qs ix)) → (∀ j ∈ ix, j < rows.length) → GridOk K F H qs rows → CellOk K C F as H (p :: qs) (.g ix rows)
  | m {p : Addr} {qs : List Addr} {lk : Option Obj} {ks : List (Key × Nat)} {rows : List (List PyData)} : H p = some (lkO lk (.dK (rowsK qs ks))) → (∀ x ∈ ks, x.2 < rows.length) → GridOk K F H qs rows → CellOk K C F as H (p :: qs) (.m lk ks rows)
  | x {own : List Addr} : CellOk K C F as H own .x
  | o {own : List Addr} {φ : CPred} : φ.P F H own → CellOk K C F as H own (.o φ)
/-- no tuple -/
def NoTup : HO → Prop
  | .tup _ => False
  | .frz _ u => match u with
    | .tup _ => False
    | _ => True
  | _ => True
structure Wd (K : PySem.W.Frag) (C : Addr) (F : Hp) (as : Own) (cs : List Cell) (H : Hp) : Prop where
  fro : Same F H
  dis : ∀ (i : Nat) own, as[i]? = some own → ∀ b ∈ own, F b = none ∧ H b ≠ none
  sep : ∀ (i j : Nat) own own', as[i]? = some own → as[j]? = some own' → i ≠ j → ∀ b ∈ own, b ∉ own'
  nd : ∀ (i : Nat) own, as[i]? = some own → own.Nodup
  len : as.length = cs.length
  ok : ∀ (i : Nat) own c, as[i]? = some own → cs[i]? = some c → CellOk K C F as H own c
  mu : ∀ (i : Nat) own, as[i]? = some own → ∀ b ∈ own, ∀ o, H b = some o → NoTup o
  tp : ∀ b o, H b = some o → ¬ NoTup o → F b = some o
/-- b is one of the cells' addresses -/
def inA (as : Own) (b : Addr) : Prop := ∃ (i : Nat) (own : List Addr), as[i]? = some own ∧ b ∈ own
/-- from one world to a later one; the first n cells are what they were -/
structure Stp (n : Nat) (F : Hp) (as : Own) (H : Hp) (F' : Hp) (as' : Own) (H' : Hp) : Prop where
  f : Same F F'
  a : ∀ i < n, ∀ own, as[i]? = some own → ∃ r, as'[i]? = some (own ++ r)
  fr : ∀ b o, H b = some o → ¬ inA as b → H' b = some o
  dm : ∀ b, H' b = none → H b = none
  nf : ∀ b o, F' b = some o → F b = some o ∨ H b = none
  na : ∀ b, inA as' b → inA as b ∨ H b = none
theorem Stp.refl {n : Nat} : Stp n F as H F as H := ⟨Same.refl F, fun i _ own h => ⟨[], by rw [List.append_nil]; exact h⟩, fun _ _ h _ => h, fun _ h => h, fun _ _ h => .inl h, fun _ h => .inl h⟩
theorem Stp.trans {n : Nat} {F'' : Hp} {as'' : Own} {H'' : Hp} (s : Stp n F as H F' as' H') (t : Stp n F' as' H' F'' as'' H'') : Stp n F as H F'' as'' H'' := by
  refine ⟨s.f.trans t.f, fun i hi own h => ?_, fun b o h hn => ?_, fun b h => s.dm b (t.dm b h), fun b o h => ?_, fun b h => ?_⟩
  · obtain ⟨r, e⟩ := s.a i hi own h
    obtain ⟨q, e2⟩ := t.a i hi _ e
    exact ⟨r ++ q, by rw [e2, List.append_assoc]⟩
  · refine t.fr b o (s.fr b o h hn) fun z => ?_
    rcases s.na b z with z | z
    · exact hn z
    · rw [h] at z; cases z
  · rcases t.nf b o h with z | z
    · exact s.nf b o z
    · exact .inr (s.dm b z)
  · rcases t.na b h with z | z
    · exact s.na b z
    · exact .inr (s.dm b z)
theorem Stp.weak {n m : Nat} (s : Stp n F as H F' as' H') (h : m ≤ n) : Stp m F as H F' as' H' := ⟨s.f, fun i hi => s.a i (Nat.lt_of_lt_of_le hi h), s.fr, s.dm, s.nf, s.na⟩
theorem Stp.pre (s : Stp as.length F as H F' as' H') : Pre as as' := fun i own h => s.a i (List.getElem?_eq_some_iff.mp h).1 own h
theorem Pre.len (p : Pre as as') : as.length ≤ as'.length := by
  refine Nat.le_of_not_lt fun h => ?_
  obtain ⟨r, e⟩ := p as'.length as[as'.length] (List.getElem?_eq_getElem h)
  rw [List.getElem?_eq_none (Nat.le_refl _)] at e; cases e
theorem Stp.len {n : Nat} (s : Stp n F as H F' as' H') (h : n ≤ as.length) : n ≤ as'.length := by
  refine Nat.le_of_not_lt fun h2 => ?_
  have h3 : as'.length < as.length := Nat.lt_of_lt_of_le h2 h
  obtain ⟨r, e⟩ := s.a as'.length h2 as[as'.length] (List.getElem?_eq_getElem h3)
  rw [List.getElem?_eq_none (Nat.le_refl _)] at e; cases e
theorem Stp.tr {F'' : Hp} {as'' : Own} {H'' : Hp} (s : Stp as.length F as H F' as' H') (t : Stp as'.length F' as' H' F'' as'' H'') : Stp as.length F as H F'' as'' H'' := s.trans (t.weak s.pre.len)
/-! ### the environment -/
structure EnvR (K : PySem.W.Frag) (C : Addr) (F : Hp) (as : Own) (E : AEnv) (σ : St) : Prop where
  len : E.length = σ.length
  get : ∀ (i : Nat) x, E[i]? = some (some x) → ∃ v, σ[i]? = some (some v) ∧ AR K C F as x v
theorem EnvR.mono {E : AEnv} {σ : St} (e : EnvR K C F as E σ) (s : Same F F') (p : Pre as as') : EnvR K C F' as' E σ := ⟨e.len, fun i x h => by
  obtain ⟨v, h1, h2⟩ := e.get i x h
  exact ⟨v, h1, h2.mono s p⟩⟩
theorem EnvR.set {E : AEnv} {σ : St} {i : Nat} {x : AV} {v : V} (e : EnvR K C F as E σ) (h : AR K C F as x v) : EnvR K C F as (E.set i (some x)) (σ.set i (some v)) := by
  refine ⟨by rw [List.length_set, List.length_set, e.len], fun j y hj => ?_⟩
  rw [List.getElem?_set] at hj
  rw [List.getElem?_set]
  by_cases c : i = j
  · subst c
    rw [if_pos rfl] at hj ⊢
    by_cases c2 : i < E.length
    · rw [if_pos c2] at hj
      rw [if_pos (by rw [← e.len]; exact c2)]
      cases hj
      exact ⟨v, rfl, h⟩
    · rw [if_neg c2] at hj; cases hj
  · rw [if_neg c] at hj ⊢
    exact e.get j y hj
/-! ### judgements -/
def Ev (K : PySem.W.Frag) (C : Addr) (E : AEnv) (cs : List Cell) (te : TE) (k : AV → List Cell → Prop) : Prop :=
  ∀ (F : Hp) (as : Own) (H : Hp) (σ : St) (Q : VK), Wd K C F as cs H → EnvR K C F as E σ →
    (∀ x cs' v F' as' H', k x cs' → Stp as.length F as H F' as' H' → Wd K C F' as' cs' H' → AR K C F' as' x v → Q v H') → te σ H Q
def Evs (K : PySem.W.Frag) (C : Addr) (E : AEnv) (cs : List Cell) (ta : TA) (k : List AV → List Cell → Prop) : Prop :=
  ∀ (F : Hp) (as : Own) (H : Hp) (σ : St) (Q : List V → Hp → Prop), Wd K C F as cs H → EnvR K C F as E σ →
    (∀ x cs' v F' as' H', k x cs' → Stp as.length F as H F' as' H' → Wd K C F' as' cs' H' → ARs K C F' as' x v → Q v H') → ta σ H Q
def Evt (K : PySem.W.Frag) (C : Addr) (E : AEnv) (cs : List Cell) (tt : TT) (k : Bool → List Cell → Prop) : Prop :=
  ∀ (F : Hp) (as : Own) (H : Hp) (σ : St) (Q : Bool → Hp → Prop), Wd K C F as cs H → EnvR K C F as E σ →
    (∀ b cs' F' as' H', k b cs' → Stp as.length F as H F' as' H' → Wd K C F' as' cs' H' → Q b H') → tt σ H Q
/-- what an error holds: a field, or nothing -/
inductive XP where
  | fld (f : Str) (x : AV)
  | no
def XR (K : PySem.W.Frag) (C : Addr) (F : Hp) (as : Own) : XP → Option Addr → Prop
  | .fld f x, d => ∃ a v, d = some a ∧ F a = some (.xd [(f, v)]) ∧ AR K C F as x v
  | .no, d => d = none
theorem XR.mono {p : XP} {d : Option Addr} (s : Same F F') (q : Pre as as') (h : XR K C F as p d) : XR K C F' as' p d := by
  cases p with
  | no => exact h
  | fld f x =>
    obtain ⟨a, v, h1, h2, h3⟩ := h
    exact ⟨a, v, h1, s _ _ h2, h3.mono s q⟩
structure AEnds where
  nx : AEnv → List Cell → Prop
  rt : AV → List Cell → Prop
  bk : AEnv → List Cell → Prop := fun _ _ => False
  ct : AEnv → List Cell → Prop := fun _ _ => False
  W : WX := fun _ _ _ _ => True
  ex : Addr → XP → AEnv → List Cell → Prop := fun _ _ _ _ => False
structure EndsR (K : PySem.W.Frag) (C : Addr) (n : Nat) (F : Hp) (as : Own) (H : Hp) (D : AEnds) (Dc : Ends) : Prop where
  nx : ∀ E cs F' as' H' σ, D.nx E cs → Stp n F as H F' as' H' → Wd K C F' as' cs H' → EnvR K C F' as' E σ → Dc.nx σ H'
  rt : ∀ x cs F' as' H' v, D.rt x cs → Stp n F as H F' as' H' → Wd K C F' as' cs H' → AR K C F' as' x v → Dc.rt v H'
  bk : ∀ E cs F' as' H' σ, D.bk E cs → Stp n F as H F' as' H' → Wd K C F' as' cs H' → EnvR K C F' as' E σ → Dc.bk σ H'
  ct : ∀ E cs F' as' H' σ, D.ct E cs → Stp n F as H F' as' H' → Wd K C F' as' cs H' → EnvR K C F' as' E σ → Dc.ct σ H'
  ex : ∀ c p E cs F' as' H' σ d, D.ex c p E cs → Stp n F as H F' as' H' → Wd K C F' as' cs H' → EnvR K C F' as' E σ → XR K C F' as' p d → D.W (.ref c) d σ H'
theorem EndsR.later {n : Nat} {D : AEnds} {Dc : Ends} (e : EndsR K C n F as H D Dc) (s : Stp n F as H F' as' H') : EndsR K C n F' as' H' D Dc :=
  ⟨fun E cs _ _ _ _ h t => e.nx E cs _ _ _ _ h (s.trans t), fun x cs _ _ _ _ h t => e.rt x cs _ _ _ _ h (s.trans t), fun E cs _ _ _ _ h t => e.bk E cs _ _ _ _ h (s.trans t), fun E cs _ _ _ _ h t => e.ct E cs _ _ _ _ h (s.trans t), fun c p E cs _ _ _ _ d h t => e.ex c p E cs _ _ _ _ d h (s.trans t)⟩
def Ex (K : PySem.W.Frag) (C : Addr) (n : Nat) (E : AEnv) (cs : List Cell) (t : TS) (D : AEnds) : Prop :=
  ∀ (F : Hp) (as : Own) (H : Hp) (σ : St) (Dc : Ends), n ≤ cs.length → Wd K C F as cs H → EnvR K C F as E σ → EndsR K C n F as H D Dc → t Dc σ H
end
end Y

/-! # Pure states: the world's changes, and the rules -/
namespace Y
open PySem L2
section
variable {K : PySem.W.Frag} {C : Addr} {F F' H H' : Hp} {as as' : Own} {cs cs' : List Cell}
theorem GridOk.mono (s : Same F F') : ∀ {qs : List Addr} {rs : List (List PyData)}, (∀ b ∈ qs, ∀ o, H b = some o → H' b = some o) → GridOk K F H qs rs → GridOk K F' H' qs rs
  | [], _, _, h => by cases h; exact .nil
  | q :: qs, _, k, h => by cases h with | cons h1 h2 h3 => exact .cons (k q (by simp) _ h1) (s.dpAll h2) (GridOk.mono s (fun b hb => k b (List.mem_cons_of_mem q hb)) h3)
theorem GridOk.get : ∀ {qs : List Addr} {rs : List (List PyData)} {j : Nat} {q : Addr} {r : List PyData}, GridOk K F H qs rs → qs[j]? = some q → rs[j]? = some r → ∃ vs, H q = some (.lst vs) ∧ DpAll K F vs r
  | _, _, _, _, _, .nil, h, _ => by simp at h
  | _, _, 0, _, _, .cons h1 h2 _, h, g => by
    simp at h g; subst h; subst g
    exact ⟨_, h1, h2⟩
  | _, _, j + 1, _, _, .cons _ _ h3, h, g => GridOk.get (j := j) h3 (by simpa using h) (by simpa using g)
theorem GridOk.len : ∀ {qs : List Addr} {rs : List (List PyData)}, GridOk K F H qs rs → qs.length = rs.length
  | _, _, .nil => rfl
  | _, _, .cons _ _ h => by simp [GridOk.len h]
theorem CellOk.mono {own : List Addr} {c : Cell} (h : CellOk K C F as H own c) (s : Same F F') (p : Pre as as') (k : ∀ b ∈ own, ∀ o, H b = some o → H' b = some o) : CellOk K C F' as' H' own c := by
  cases h with
  | l h1 h2 => exact .l (k _ (by simp) _ h1) (s.dpAll h2)
  | a h1 h2 => exact .a (k _ (by simp) _ h1) (h2.mono s p)
  | k h0 h1 h2 h3 => exact .k h0 (k _ (by simp) _ h1) h2 (h3.mono s p)
  | g h1 h2 h3 => exact .g (k _ (by simp) _ h1) h2 (h3.mono s fun b hb => k b (List.mem_cons_of_mem _ hb))
  | m h1 h2 h3 => exact .m (k _ (by simp) _ h1) h2 (h3.mono s fun b hb => k b (List.mem_cons_of_mem _ hb))
  | x => exact .x
  | o h => exact .o (CPred.mono _ h s k)
theorem Wd.newF (w : Wd K C F as cs H) {p : Addr} (hp : H p = none) (o : HO) : Wd K C (upd F p o) as cs (upd H p o) ∧ Stp as.length F as H (upd F p o) as (upd H p o) ∧ Same F (upd F p o) := by
  have hF : F p = none := w.fro.free hp
  have sF : Same F (upd F p o) := Same.new hF
  have sH : Same H (upd H p o) := Same.new hp
  have nb : ∀ {i own}, as[i]? = some own → ∀ b ∈ own, b ≠ p := fun hi b hb z => (w.dis _ _ hi b hb).2 (z ▸ hp)
  refine ⟨⟨fun b u h => ?_, fun i own hi b hb => ?_, w.sep, w.nd, w.len, fun i own c hi hc => (w.ok i own c hi hc).mono sF Pre.refl fun b _ o h => sH b o h, fun i own hi b hb u h => ?_, fun b u h n => ?_⟩, ⟨sF, fun i _ own h => ⟨[], by rw [List.append_nil]; exact h⟩, fun b u h _ => sH b u h, fun b h => (updN0 h).2, fun b u h => ?_, fun b h => .inl h⟩, sF⟩
  · by_cases e : b = p
    · subst e; rw [upd_same] at h ⊢; exact h
    · rw [upd_ne e] at h ⊢; exact w.fro b u h
  · have e := nb hi b hb
    rw [upd_ne e, upd_ne e]; exact w.dis i own hi b hb
  · rw [upd_ne (nb hi b hb)] at h; exact w.mu i own hi b hb u h
  · by_cases e : b = p
    · subst e; rw [upd_same] at h ⊢; exact h
    · rw [upd_ne e] at h ⊢; exact w.tp b u h n
  · by_cases e : b = p
    · subst e; exact .inr hp
    · rw [upd_ne e] at h; exact .inl h
where
  updN0 {H : Hp} {p x : Addr} {o : HO} (h : upd H p o x = none) : x ≠ p ∧ H x = none := by
    unfold upd at h
    split at h
    · cases h
    · exact ⟨by assumption, h⟩
theorem get_snoc {α : Type} {l : List α} {a x : α} {i : Nat} (h : (l ++ [a])[i]? = some x) : l[i]? = some x ∨ i = l.length ∧ x = a := by
  rcases Nat.lt_trichotomy i l.length with c | c | c
  · rw [List.getElem?_append_left c] at h; exact .inl h
  · subst c; rw [List.getElem?_append_right (Nat.le_refl _)] at h; simp at h; exact .inr ⟨rfl, h.symm⟩
  · rw [List.getElem?_eq_none (by simp; omega)] at h; cases h
theorem Wd.newC (w : Wd K C F as cs H) {p : Addr} {o : HO} {c : Cell} (hp : H p = none) (ho : NoTup o) (hc : CellOk K C F (as ++ [[p]]) (upd H p o) [p] c) :
    Wd K C F (as ++ [[p]]) (cs ++ [c]) (upd H p o) ∧ Stp as.length F as H F (as ++ [[p]]) (upd H p o) := by
  have hF : F p = none := w.fro.free hp
  have sH : Same H (upd H p o) := Same.new hp
  have nb : ∀ {i own}, as[i]? = some own → ∀ b ∈ own, b ≠ p := fun hi b hb z => (w.dis _ _ hi b hb).2 (z ▸ hp)
  refine ⟨⟨fun b u h => sH b u (w.fro b u h), fun i own hi b hb => ?_, fun i j own own' hi hj hij b hb => ?_, fun i own hi => ?_, by simp [w.len], fun i own c' hi hc' => ?_, fun i own hi b hb u h => ?_, fun b u h n => ?_⟩, ⟨Same.refl F, fun i hi own h => Pre.snoc i own h, fun b u h _ => sH b u h, fun b h => (Wd.newF.updN0 h).2, fun b u h => .inl h, fun b ⟨i, own, hi, hb⟩ => ?_⟩⟩
  · rcases get_snoc hi with hi | ⟨rfl, rfl⟩
    · rw [upd_ne (nb hi b hb)]; exact w.dis i own hi b hb
    · rw [List.mem_singleton.mp hb, upd_same]; exact ⟨hF, by simp⟩
  · rcases get_snoc hi with hi | ⟨rfl, rfl⟩ <;> rcases get_snoc hj with hj | ⟨rfl, rfl⟩
    · exact w.sep i j own own' hi hj hij b hb
    · intro z; exact nb hi b hb (List.mem_singleton.mp z)
    · rw [List.mem_singleton.mp hb]; intro z; exact nb hj p z rfl
    · exact absurd rfl hij
  · rcases get_snoc hi with hi | ⟨rfl, rfl⟩
    · exact w.nd i own hi
    · simp
  · rcases get_snoc hi with hi | ⟨rfl, rfl⟩
    · rw [List.getElem?_append_left (by rw [← w.len]; exact (List.getElem?_eq_some_iff.mp hi).1)] at hc'
      exact (w.ok i own c' hi hc').mono (Same.refl F) Pre.snoc fun b _ o h => sH b o h
    · rw [w.len] at hc'
      rcases get_snoc hc' with z | ⟨_, rfl⟩
      · rw [List.getElem?_eq_none (Nat.le_refl _)] at z; cases z
      · exact hc
  · rcases get_snoc hi with hi | ⟨rfl, rfl⟩
    · rw [upd_ne (nb hi b hb)] at h; exact w.mu i own hi b hb u h
    · rw [List.mem_singleton.mp hb, upd_same] at h; cases h; exact ho
  · by_cases e : b = p
    · subst e; rw [upd_same] at h; cases h; exact absurd ho n
    · rw [upd_ne e] at h; exact w.tp b u h n
  · rcases get_snoc hi with hi | ⟨rfl, rfl⟩
    · exact .inl ⟨i, own, hi, hb⟩
    · rw [List.mem_singleton.mp hb]; exact .inr hp
theorem Wd.put (w : Wd K C F as cs H) {i : Nat} {own : List Addr} {p : Addr} {o : HO} {c : Cell} (hi : as[i]? = some own) (hp : p ∈ own) (ho : NoTup o) (hc : CellOk K C F as (upd H p o) own c) :
    Wd K C F as (cs.set i c) (upd H p o) ∧ Stp as.length F as H F as (upd H p o) := by
  have d := w.dis i own hi p hp
  have ne : ∀ b u, F b = some u → b ≠ p := fun b u h z => by rw [z, d.1] at h; cases h
  have nn : ∀ {b}, upd H p o b = none → H b = none := fun h => (Wd.newF.updN0 h).2
  refine ⟨⟨fun b u h => by rw [upd_ne (ne b u h)]; exact w.fro b u h, fun j own' hj b hb => ?_, w.sep, w.nd, by rw [List.length_set]; exact w.len, fun j own' c' hj hc' => ?_, fun j own' hj b hb u h => ?_, fun b u h n => ?_⟩, ⟨Same.refl F, fun j _ own h => ⟨[], by rw [List.append_nil]; exact h⟩, fun b u h n => ?_, fun b h => nn h, fun b u h => .inl h, fun b h => .inl h⟩⟩
  · exact ⟨(w.dis j own' hj b hb).1, fun z => (w.dis j own' hj b hb).2 (nn z)⟩
  · rw [List.getElem?_set] at hc'
    by_cases e : i = j
    · subst e
      rw [if_pos rfl] at hc'
      rw [hi] at hj; cases hj
      split at hc'
      · cases hc'; exact hc
      · cases hc'
    · rw [if_neg e] at hc'
      refine (w.ok j own' c' hj hc').mono (Same.refl F) Pre.refl fun b hb u h => ?_
      have nz : b ≠ p := fun z => w.sep i j own own' hi hj e p hp (by rw [← z]; exact hb)
      rw [upd_ne nz]; exact h
  · by_cases e : b = p
    · subst e; rw [upd_same] at h; cases h; exact ho
    · rw [upd_ne e] at h; exact w.mu j own' hj b hb u h
  · by_cases e : b = p
    · subst e; rw [upd_same] at h; cases h; exact absurd ho n
    · rw [upd_ne e] at h; exact w.tp b u h n
  · have nz : b ≠ p := fun z => n ⟨i, own, hi, by rw [z]; exact hp⟩
    rw [upd_ne nz]; exact h
mutual
theorem Wd.imm (w : Wd K C F as cs H) : ∀ {d : PyData} {v : V}, imm d = true → Dp K H v d → Dp K F v d
  | .none, _, _, h => by cases h; exact .non
  | .bool b, _, _, h => by cases h; exact .bl b
  | .int i, _, _, h => by cases h; exact .int i
  | .str s, _, _, h => by cases h; exact .str s
  | .list ds, _, i, _ => by simp [L2.imm] at i
  | .dict ds, _, i, _ => by simp [L2.imm] at i
  | .tuple ds, _, i, h => by
    cases h with
    | tup h1 h2 =>
      refine .tup ?_ (Wd.immAll w (by simpa [L2.imm] using i) h2)
      rcases h1 with (h1 | ⟨o, h1⟩) | h1
      · exact .inl (.inl (w.tp _ _ h1 fun z => z))
      · exact .inl (.inr ⟨o, w.tp _ _ h1 fun z => z⟩)
      · exact .inr h1
theorem Wd.immAll (w : Wd K C F as cs H) : ∀ {ds : List PyData} {vs : List V}, immAll ds = true → DpAll K H vs ds → DpAll K F vs ds
  | [], _, _, h => by cases h; exact .nil
  | d :: ds, _, i, h => by
    simp only [L2.immAll, Bool.and_eq_true] at i
    cases h with
    | cons h1 h2 => exact .cons (Wd.imm w i.1 h1) (Wd.immAll w i.2 h2)
end
/-- what is new is frozen -/
def absF (F H H' : Hp) : Hp := fun b => match H b with
  | none => H' b
  | some _ => F b
theorem absF_new {b : Addr} (h : H b = none) : absF F H H' b = H' b := by unfold absF; rw [h]
theorem absF_old {b : Addr} {o : HO} (h : H b = some o) : absF F H H' b = F b := by unfold absF; rw [h]
theorem absF_same (s : Same F H) : Same F (absF F H H') := fun b o h => by rw [absF_old (s b o h)]; exact h
theorem Wd.absorb (w : Wd K C F as cs H) (k : ∀ b o, H b = some o → ¬ inA as b → H' b = some o) (dm : ∀ b, H' b = none → H b = none) (hl : cs'.length = cs.length)
    (hc : ∀ (i : Nat) own c, as[i]? = some own → cs'[i]? = some c → CellOk K C (absF F H H') as H' own c) (hm : ∀ (i : Nat) own, as[i]? = some own → ∀ b ∈ own, ∀ o, H' b = some o → NoTup o) :
    Wd K C (absF F H H') as cs' H' ∧ Stp as.length F as H (absF F H H') as H' := by
  have nF : ∀ b o, F b = some o → ¬ inA as b := fun b o h ⟨i, own, hi, hb⟩ => by rw [(w.dis i own hi b hb).1] at h; cases h
  refine ⟨⟨fun b o h => ?_, fun i own hi b hb => ?_, w.sep, w.nd, by rw [hl]; exact w.len, hc, hm, fun b o h n => ?_⟩, ⟨absF_same w.fro, fun i _ own h => ⟨[], by rw [List.append_nil]; exact h⟩, k, dm, fun b o h => ?_, fun b h => .inl h⟩⟩
  · cases e : H b with
    | none => rw [absF_new e] at h; exact h
    | some u => rw [absF_old e] at h; exact k b o (w.fro b o h) (nF b o h)
  · have d := w.dis i own hi b hb
    refine ⟨?_, fun z => d.2 (dm b z)⟩
    cases e : H b with
    | none => exact absurd e d.2
    | some u => rw [absF_old e]; exact d.1
  · cases e : H b with
    | none => rw [absF_new e]; exact h
    | some u =>
      rw [absF_old e]
      by_cases z : inA as b
      · obtain ⟨i, own, hi, hb⟩ := z
        exact absurd (hm i own hi b hb o h) n
      · have := k b u e z
        rw [h] at this; cases this
        exact w.tp b o e n
  · cases e : H b with
    | none => exact .inr rfl
    | some u => rw [absF_old e] at h; exact .inl h
theorem Wd.same (w : Wd K C F as cs H) (s : Same H H') : Wd K C (absF F H H') as cs H' ∧ Stp as.length F as H (absF F H H') as H' :=
  w.absorb (fun b o h _ => s b o h) (fun b h => s.free h) rfl (fun i own c hi hc => (w.ok i own c hi hc).mono (absF_same w.fro) Pre.refl fun b _ o h => s b o h) fun i own hi b hb o h => by
    cases e : H b with
    | none => exact absurd e (w.dis i own hi b hb).2
    | some u =>
      have := s b u e
      rw [h] at this; cases this
      exact w.mu i own hi b hb o e
theorem get_take {α : Type} {l : List α} {n i : Nat} {x : α} (h : (l.take n)[i]? = some x) : l[i]? = some x ∧ i < n := by
  rw [List.getElem?_take] at h
  split at h
  · exact ⟨h, by assumption⟩
  · cases h
mutual
def AV.lt (n : Nat) : AV → Bool
  | .d _ => true
  | .tup xs => AV.ltAll n xs
  | .cel i => decide (i < n)
  | .sub i _ => decide (i < n)
  | .scr _ => true
  | .ty _ => true
  | .dct => true
  | .raw _ => true
  | .exn _ _ _ x => AV.lt n x
def AV.ltAll (n : Nat) : List AV → Bool
  | [] => true
  | x :: xs => AV.lt n x && AV.ltAll n xs
end
def Cell.lt (n : Nat) : Cell → Bool
  | .a xs => AV.ltAll n xs
  | .k _ kvs => AV.ltAll n (kvs.map Prod.snd)
  | _ => true
mutual
theorem AR.cut {n : Nat} : ∀ {x : AV} {v : V}, AV.lt n x = true → AR K C F as x v → AR K C F (as.take n) x v
  | .d _, _, _, h => by cases h with | d h => exact .d h
  | .tup xs, _, l, h => by cases h with | tup h1 h2 => exact .tup h1 (ARs.cut (by simpa only [AV.lt] using l) h2)
  | .cel i, _, l, h => by
    cases h with | cel h =>
    simp only [AV.lt, decide_eq_true_eq] at l
    exact .cel (by rw [List.getElem?_take, if_pos l]; exact h)
  | .sub i j, _, l, h => by
    cases h with | sub h1 h2 =>
    simp only [AV.lt, decide_eq_true_eq] at l
    exact .sub (by rw [List.getElem?_take, if_pos l]; exact h1) h2
  | .scr _, _, _, h => by cases h with | scr h => exact .scr h
  | .ty _, _, _, h => by cases h; exact .ty
  | .dct, _, _, h => by cases h with | dct h => exact .dct h
  | .raw _, _, _, h => by cases h; exact .raw
  | .exn _ _ _ _, _, l, h => by cases h with | exn h1 h2 => exact .exn h1 (AR.cut (by simpa only [AV.lt] using l) h2)
theorem ARs.cut {n : Nat} : ∀ {xs : List AV} {vs : List V}, AV.ltAll n xs = true → ARs K C F as xs vs → ARs K C F (as.take n) xs vs
  | [], _, _, h => by cases h; exact .nil
  | x :: xs, _, l, h => by
    simp only [AV.ltAll, Bool.and_eq_true] at l
    cases h with | cons h1 h2 => exact .cons (AR.cut l.1 h1) (ARs.cut l.2 h2)
end
theorem CellOk.cut {n : Nat} {own : List Addr} {c : Cell} (h : CellOk K C F as H own c) (l : Cell.lt n c = true) : CellOk K C F (as.take n) H own c := by
  cases h with
  | l h1 h2 => exact .l h1 h2
  | a h1 h2 => exact .a h1 (h2.cut l)
  | k h0 h1 h2 h3 => exact .k h0 h1 h2 (h3.cut l)
  | g h1 h2 h3 => exact .g h1 h2 h3
  | m h1 h2 h3 => exact .m h1 h2 h3
  | x => exact .x
  | o h => exact .o h
theorem Wd.cut (w : Wd K C F as cs H) {n : Nat} (hl : ∀ c ∈ cs.take n, Cell.lt n c = true) : Wd K C F (as.take n) (cs.take n) H :=
  ⟨w.fro, fun i own hi => w.dis i own (get_take hi).1, fun i j own own' hi hj => w.sep i j own own' (get_take hi).1 (get_take hj).1, fun i own hi => w.nd i own (get_take hi).1, by rw [List.length_take, List.length_take, w.len],
    fun i own c hi hc => (w.ok i own c (get_take hi).1 (get_take hc).1).cut (hl c (List.mem_of_getElem? hc)), fun i own hi => w.mu i own (get_take hi).1, w.tp⟩
theorem Stp.cut {n m : Nat} (s : Stp n F as H F' as' H') (h : n ≤ m) : Stp n F as H F' (as'.take m) H' := ⟨s.f, fun i hi own ho => by
  obtain ⟨r, e⟩ := s.a i hi own ho
  exact ⟨r, by rw [List.getElem?_take, if_pos (by omega)]; exact e⟩, s.fr, s.dm, s.nf, fun b ⟨i, own, hi, hb⟩ => s.na b ⟨i, own, (get_take hi).1, hb⟩⟩
end
end Y

/-! # Pure states: rules for expressions and statements -/
namespace Y
open PySem L2
section
variable {K : PySem.W.Frag} {C : Addr} {F F' H H' : Hp} {as as' : Own} {cs cs' cs1 : List Cell} {E : AEnv} {k : AV → List Cell → Prop} {ta tb te tc : TE} {tas tar : TA}
def Kt (K : PySem.W.Frag) (C : Addr) (F : Hp) (as : Own) (H : Hp) (k : AV → List Cell → Prop) (Q : VK) : Prop :=
  ∀ z cs' w F' as' H', k z cs' → Stp as.length F as H F' as' H' → Wd K C F' as' cs' H' → AR K C F' as' z w → Q w H'
theorem Kt.now {Q : VK} (q : Kt K C F as H k Q) {z : AV} {w : V} (h : k z cs) (W : Wd K C F as cs H) (r : AR K C F as z w) : Q w H := q z cs w F as H h Stp.refl W r
theorem Kt.later {Q : VK} (q : Kt K C F as H k Q) (s : Stp as.length F as H F' as' H') : Kt K C F' as' H' k Q := fun z cs' w _ _ _ h t => q z cs' w _ _ _ h (s.tr t)
def O2 (K : PySem.W.Frag) (C : Addr) (r : R2) (x y : AV) (cs : List Cell) (k : AV → List Cell → Prop) : Prop :=
  ∀ (F : Hp) (as : Own) (H : Hp) (v u : V) (Q : VK), Wd K C F as cs H → AR K C F as x v → AR K C F as y u → Kt K C F as H k Q → r v u H Q
def O1 (K : PySem.W.Frag) (C : Addr) (r : V → Hp → VK → Prop) (x : AV) (cs : List Cell) (k : AV → List Cell → Prop) : Prop :=
  ∀ (F : Hp) (as : Own) (H : Hp) (v : V) (Q : VK), Wd K C F as cs H → AR K C F as x v → Kt K C F as H k Q → r v H Q
def On (K : PySem.W.Frag) (C : Addr) (r : List V → Hp → VK → Prop) (xs : List AV) (cs : List Cell) (k : AV → List Cell → Prop) : Prop :=
  ∀ (F : Hp) (as : Own) (H : Hp) (vs : List V) (Q : VK), Wd K C F as cs H → ARs K C F as xs vs → Kt K C F as H k Q → r vs H Q
def Om (K : PySem.W.Frag) (C : Addr) (r : V → List V → Hp → VK → Prop) (x : AV) (xs : List AV) (cs : List Cell) (k : AV → List Cell → Prop) : Prop :=
  ∀ (F : Hp) (as : Own) (H : Hp) (v : V) (vs : List V) (Q : VK), Wd K C F as cs H → AR K C F as x v → ARs K C F as xs vs → Kt K C F as H k Q → r v vs H Q
def IsB (x : AV) (f : Bool → Prop) : Prop := ∃ b, x = .d (.bool b) ∧ f b
theorem isB {b : Bool} {f : Bool → Prop} (h : f b) : IsB (.d (.bool b)) f := ⟨b, rfl, h⟩
def IsI (x : AV) (f : Int → Prop) : Prop := ∃ b, x = .d (.int b) ∧ f b
theorem isI {b : Int} {f : Int → Prop} (h : f b) : IsI (.d (.int b)) f := ⟨b, rfl, h⟩
def IsI1 (xs : List AV) (f : Int → Prop) : Prop := ∃ b, xs = [.d (.int b)] ∧ f b
theorem isI1 {b : Int} {f : Int → Prop} (h : f b) : IsI1 [.d (.int b)] f := ⟨b, rfl, h⟩
def IsI2 (xs : List AV) (f : Int → Int → Prop) : Prop := ∃ a b, xs = [.d (.int a), .d (.int b)] ∧ f a b
theorem isI2 {a b : Int} {f : Int → Int → Prop} (h : f a b) : IsI2 [.d (.int a), .d (.int b)] f := ⟨a, b, rfl, h⟩
def IsT (x : AV) (f : List PyData → Prop) : Prop := ∃ b, x = .d (.tuple b) ∧ f b
theorem isT {b : List PyData} {f : List PyData → Prop} (h : f b) : IsT (.d (.tuple b)) f := ⟨b, rfl, h⟩
def IsL (x : AV) (f : List PyData → Prop) : Prop := ∃ b, x = .d (.list b) ∧ f b
theorem isL {b : List PyData} {f : List PyData → Prop} (h : f b) : IsL (.d (.list b)) f := ⟨b, rfl, h⟩
def Is2 (xs : List AV) (f : AV → AV → Prop) : Prop := ∃ x y, xs = [x, y] ∧ f x y
theorem is2 {x y : AV} {f : AV → AV → Prop} (h : f x y) : Is2 [x, y] f := ⟨x, y, rfl, h⟩
def Is3 (xs : List AV) (f : AV → AV → AV → Prop) : Prop := ∃ x y z, xs = [x, y, z] ∧ f x y z
theorem is3 {x y z : AV} {f : AV → AV → AV → Prop} (h : f x y z) : Is3 [x, y, z] f := ⟨x, y, z, rfl, h⟩
def IsScr (x : AV) (f : List PyData → Prop) : Prop := ∃ b, x = .scr b ∧ f b
theorem isScr {b : List PyData} {f : List PyData → Prop} (h : f b) : IsScr (.scr b) f := ⟨b, rfl, h⟩
/-! ### expressions -/
theorem ev_var {i : Nat} {x : AV} (h : E[i]? = some (some x)) (q : k x cs) : Ev K C E cs (tVar i) k := fun F as H σ Q w e z => by
  obtain ⟨v, h1, h2⟩ := e.get i x h
  exact ⟨v, h1, z x cs v F as H q Stp.refl w h2⟩
theorem ev_c {v : V} {d : PyData} (h : ∀ F, Dp K F v d) (q : k (.d d) cs) : Ev K C E cs (tC v) k := fun F as H σ Q w e z => z _ cs v F as H q Stp.refl w (.d (h F))
theorem ev_int {i : Int} (q : k (.d (.int i)) cs) : Ev K C E cs (tC (.int i)) k := ev_c (fun _ => .int i) q
theorem ev_str {i : Str} (q : k (.d (.str i)) cs) : Ev K C E cs (tC (.str i)) k := ev_c (fun _ => .str i) q
theorem ev_bl {i : Bool} (q : k (.d (.bool i)) cs) : Ev K C E cs (tC (.bl i)) k := ev_c (fun _ => .bl i) q
theorem ev_non (q : k (.d .none) cs) : Ev K C E cs (tC .non) k := ev_c (fun _ => .non) q
theorem ev_ty {i : String} (q : k (.ty i) cs) : Ev K C E cs (tC (.ty i)) k := fun F as H σ Q w e z => z _ cs _ F as H q Stp.refl w .ty
theorem ev_op {r : R2} (h : Ev K C E cs ta fun x cs1 => Ev K C E cs1 tb fun y cs2 => O2 K C r x y cs2 k) : Ev K C E cs (tOp r ta tb) k := fun F as H σ Q w e z => by
  refine h F as H σ _ w e fun x cs1 v F1 as1 H1 h1 s1 w1 r1 => ?_
  refine h1 F1 as1 H1 σ _ w1 (e.mono s1.f s1.pre) fun y cs2 u F2 as2 H2 h2 s2 w2 r2 => ?_
  exact h2 F2 as2 H2 v u Q w2 (r1.mono s2.f s2.pre) r2 fun a b c _ _ _ g t => z a b c _ _ _ g ((s1.tr s2).tr t)
theorem ev_un {r : V → Hp → VK → Prop} (h : Ev K C E cs ta fun x cs1 => O1 K C r x cs1 k) : Ev K C E cs (tUn r ta) k := fun F as H σ Q w e z => by
  refine h F as H σ _ w e fun x cs1 v F1 as1 H1 h1 s1 w1 r1 => ?_
  exact h1 F1 as1 H1 v Q w1 r1 fun a b c _ _ _ g t => z a b c _ _ _ g (s1.tr t)
theorem evs_nil {k : List AV → List Cell → Prop} (q : k [] cs) : Evs K C E cs tNil k := fun F as H σ Q w e z => z [] cs [] F as H q Stp.refl w .nil
theorem evs_cons {k : List AV → List Cell → Prop} (h : Ev K C E cs ta fun x cs1 => Evs K C E cs1 tar fun xs cs2 => k (x :: xs) cs2) : Evs K C E cs (tCons ta tar) k := fun F as H σ Q w e z => by
  refine h F as H σ _ w e fun x cs1 v F1 as1 H1 h1 s1 w1 r1 => ?_
  refine h1 F1 as1 H1 σ _ w1 (e.mono s1.f s1.pre) fun y cs2 u F2 as2 H2 h2 s2 w2 r2 => ?_
  exact z _ cs2 _ F2 as2 H2 h2 (s1.tr s2) w2 (.cons (r1.mono s2.f s2.pre) r2)
def unD : List AV → Option (List PyData)
  | [] => some []
  | .d x :: xs => match unD xs with
    | some ds => some (x :: ds)
    | none => none
  | _ :: _ => none
def IsDs (xs : List AV) (f : List PyData → Prop) : Prop := ∃ ds, unD xs = some ds ∧ ds.length ≤ 100000 ∧ f ds
theorem isDs {xs : List AV} {ds : List PyData} {f : List PyData → Prop} (h : unD xs = some ds) (hl : Nat.ble ds.length 100000 = true) (q : f ds) : IsDs xs f := ⟨ds, h, Nat.le_of_ble_eq_true hl, q⟩
theorem unD_eq : ∀ {xs : List AV} {ds : List PyData}, unD xs = some ds → xs = ds.map AV.d
  | [], ds, h => by simp [unD] at h; subst h; rfl
  | .d x :: xs, ds, h => by
    simp only [unD] at h
    cases e : unD xs with
    | none => rw [e] at h; cases h
    | some es => rw [e] at h; cases h; rw [unD_eq e]; rfl
  | .tup _ :: _, _, h => by simp [unD] at h
  | .cel _ :: _, _, h => by simp [unD] at h
  | .sub _ _ :: _, _, h => by simp [unD] at h
  | .scr _ :: _, _, h => by simp [unD] at h
  | .ty _ :: _, _, h => by simp [unD] at h
  | .dct :: _, _, h => by simp [unD] at h
  | .raw _ :: _, _, h => by simp [unD] at h
  | .exn _ _ _ _ :: _, _, h => by simp [unD] at h
theorem Kt.frz {Q : VK} (q : Kt K C F as H k Q) (w : Wd K C F as cs H) {z : AV} {p : Addr} {o : HO} (hp : H p = none) (h : k z cs) (r : AR K C (upd F p o) as z (.ref p)) : Q (.ref p) (upd H p o) := by
  obtain ⟨w1, s1, _⟩ := w.newF hp o
  exact q z cs _ _ _ _ h s1 w1 r
theorem Kt.cell {Q : VK} (q : Kt K C F as H k Q) (w : Wd K C F as cs H) {p : Addr} {o : HO} {c : Cell} (hp : H p = none) (ho : NoTup o) (hc : CellOk K C F (as ++ [[p]]) (upd H p o) [p] c) (h : k (.cel cs.length) (cs ++ [c])) : Q (.ref p) (upd H p o) := by
  obtain ⟨w1, s1⟩ := w.newC hp ho hc
  refine q _ _ _ _ _ _ h s1 w1 (.cel (r := []) ?_)
  rw [← w.len, List.getElem?_append_right (Nat.le_refl _)]; simp
theorem ev_tupD (h : Evs K C E cs tas fun xs cs1 => IsDs xs fun ds => k (.d (.tuple ds)) cs1) : Ev K C E cs (tTup tas) k := fun F as H σ Q w e z => by
  refine h F as H σ _ w e fun xs cs1 vs F1 as1 H1 ⟨ds, h0, hl, h1⟩ s1 w1 r1 => ?_
  have r2 := ARs.toData ((unD_eq h0) ▸ r1)
  refine ⟨line_of (by rw [← r1.length, unD_eq h0, List.length_map]; exact hl), fun p hp => ?_⟩
  have hF : F1 p = none := w1.fro.free hp
  exact Kt.frz (Kt.later z s1) w1 hp h1 (.d (.tupOf upd_same ((Same.new hF).dpAll r2)))
theorem ev_tup (h : Evs K C E cs tas fun xs cs1 => xs.length ≤ 100000 ∧ k (.tup xs) cs1) : Ev K C E cs (tTup tas) k := fun F as H σ Q w e z => by
  refine h F as H σ _ w e fun xs cs1 vs F1 as1 H1 ⟨hl, h1⟩ s1 w1 r1 => ?_
  refine ⟨line_of (by rw [← r1.length]; exact hl), fun p hp => ?_⟩
  have hF : F1 p = none := w1.fro.free hp
  exact Kt.frz (Kt.later z s1) w1 hp h1 (.tup (SqT.of upd_same) (r1.mono (Same.new hF) Pre.refl))
theorem ev_lstD (h : Evs K C E cs tas fun xs cs1 => IsDs xs fun ds => k (.cel cs1.length) (cs1 ++ [.l ds])) : Ev K C E cs (tLst tas) k := fun F as H σ Q w e z => by
  refine h F as H σ _ w e fun xs cs1 vs F1 as1 H1 ⟨ds, h0, hl, h1⟩ s1 w1 r1 => ?_
  have r2 := ARs.toData ((unD_eq h0) ▸ r1)
  refine ⟨line_of (by rw [← r1.length, unD_eq h0, List.length_map]; exact hl), fun p hp => ?_⟩
  exact Kt.cell (Kt.later z s1) w1 hp trivial (.l upd_same r2) h1
theorem ev_lst (h : Evs K C E cs tas fun xs cs1 => xs.length ≤ 100000 ∧ k (.cel cs1.length) (cs1 ++ [.a xs])) : Ev K C E cs (tLst tas) k := fun F as H σ Q w e z => by
  refine h F as H σ _ w e fun xs cs1 vs F1 as1 H1 ⟨hl, h1⟩ s1 w1 r1 => ?_
  refine ⟨line_of (by rw [← r1.length]; exact hl), fun p hp => ?_⟩
  exact Kt.cell (Kt.later z s1) w1 hp trivial (.a upd_same (r1.mono (Same.refl _) Pre.snoc)) h1
/-- a list literal that is only read: frozen -/
theorem ev_lstF (h : Evs K C E cs tas fun xs cs1 => IsDs xs fun ds => k (.d (.list ds)) cs1) : Ev K C E cs (tLst tas) k := fun F as H σ Q w e z => by
  refine h F as H σ _ w e fun xs cs1 vs F1 as1 H1 ⟨ds, h0, hl, h1⟩ s1 w1 r1 => ?_
  have r2 := ARs.toData ((unD_eq h0) ▸ r1)
  refine ⟨line_of (by rw [← r1.length, unD_eq h0, List.length_map]; exact hl), fun p hp => ?_⟩
  have hF : F1 p = none := w1.fro.free hp
  exact Kt.frz (Kt.later z s1) w1 hp h1 (.d (.lstOf upd_same ((Same.new hF).dpAll r2)))
theorem ev_if {tt : TT} (h : Evt K C E cs tt fun b cs1 => if b = true then Ev K C E cs1 ta k else Ev K C E cs1 tb k) : Ev K C E cs (tIf tt ta tb) k := fun F as H σ Q w e z => by
  refine h F as H σ _ w e fun b cs1 F1 as1 H1 h1 s1 w1 => ?_
  cases b with
  | true => exact h1 F1 as1 H1 σ Q w1 (e.mono s1.f s1.pre) (Kt.later z s1)
  | false => exact h1 F1 as1 H1 σ Q w1 (e.mono s1.f s1.pre) (Kt.later z s1)
theorem ev_andV (h : Ev K C E cs ta fun x cs1 => IsB x fun b => if b = true then Ev K C E cs1 tb k else k (.d (.bool false)) cs1) : Ev K C E cs (tAndV ta tb) k := fun F as H σ Q w e z => by
  refine h F as H σ _ w e fun x cs1 v F1 as1 H1 ⟨b, hx, h1⟩ s1 w1 r1 => ?_
  subst hx
  cases r1 with | d r1 =>
  refine ⟨b, r1.bl_inv, ?_⟩
  cases b with
  | true => exact h1 F1 as1 H1 σ Q w1 (e.mono s1.f s1.pre) (Kt.later z s1)
  | false => exact z _ cs1 _ F1 as1 H1 h1 s1 w1 (.d (.bl false))
theorem ev_orV (h : Ev K C E cs ta fun x cs1 => IsB x fun b => if b = true then k (.d (.bool true)) cs1 else Ev K C E cs1 tb k) : Ev K C E cs (tOrV ta tb) k := fun F as H σ Q w e z => by
  refine h F as H σ _ w e fun x cs1 v F1 as1 H1 ⟨b, hx, h1⟩ s1 w1 r1 => ?_
  subst hx
  cases r1 with | d r1 =>
  refine ⟨b, r1.bl_inv, ?_⟩
  cases b with
  | true => exact z _ cs1 _ F1 as1 H1 h1 s1 w1 (.d (.bl true))
  | false => exact h1 F1 as1 H1 σ Q w1 (e.mono s1.f s1.pre) (Kt.later z s1)
theorem ev_notV (h : Ev K C E cs ta fun x cs1 => IsB x fun b => k (.d (.bool (!b))) cs1) : Ev K C E cs (tNotV ta) k := fun F as H σ Q w e z => by
  refine h F as H σ _ w e fun x cs1 v F1 as1 H1 ⟨b, hx, h1⟩ s1 w1 r1 => ?_
  subst hx
  cases r1 with | d r1 =>
  exact ⟨b, r1.bl_inv, z _ cs1 _ F1 as1 H1 h1 s1 w1 (.d (.bl (!b)))⟩
theorem ev_cb {r : List V → Hp → VK → Prop} (h : Evs K C E cs tas fun xs cs1 => On K C r xs cs1 k) : Ev K C E cs (tCB r tas) k := fun F as H σ Q w e z => by
  refine h F as H σ _ w e fun xs cs1 vs F1 as1 H1 h1 s1 w1 r1 => ?_
  exact h1 F1 as1 H1 vs Q w1 r1 (Kt.later z s1)
/-- the receiver's type -/
def TyA (K : PySem.W.Frag) (C : Addr) (T : String) (x : AV) (cs : List Cell) : Prop := ∀ F as H v, Wd K C F as cs H → AR K C F as x v → tyV K T v H
theorem ev_bm {T : String} {r : V → List V → Hp → VK → Prop} (h : Ev K C E cs ta fun x cs1 => TyA K C T x cs1 ∧ Evs K C E cs1 tas fun xs cs2 => Om K C r x xs cs2 k) : Ev K C E cs (tBM K T r ta tas) k := fun F as H σ Q w e z => by
  refine h F as H σ _ w e fun x cs1 v F1 as1 H1 ⟨ht, h1⟩ s1 w1 r1 => ⟨ht F1 as1 H1 v w1 r1, ?_⟩
  refine h1 F1 as1 H1 σ _ w1 (e.mono s1.f s1.pre) fun xs cs2 vs F2 as2 H2 h2 s2 w2 r2 => ?_
  exact h2 F2 as2 H2 v vs Q w2 (r1.mono s2.f s2.pre) r2 (Kt.later z (s1.tr s2))
theorem ev_bm0 {T : String} {r : V → List V → Hp → VK → Prop} (h : Ev K C E cs ta fun x cs1 => TyA K C T x cs1 ∧ Om K C r x [] cs1 k) : Ev K C E cs (tBM0 K T r ta) k := fun F as H σ Q w e z => by
  refine h F as H σ _ w e fun x cs1 v F1 as1 H1 ⟨ht, h1⟩ s1 w1 r1 => ⟨ht F1 as1 H1 v w1 r1, ?_⟩
  exact h1 F1 as1 H1 v [] Q w1 r1 .nil (Kt.later z s1)
/-! ### tests -/
section
variable {kb : Bool → List Cell → Prop} {t u : TT}
theorem et_test (h : Ev K C E cs te fun x cs1 => IsB x fun b => kb b cs1) : Evt K C E cs (tTest te) kb := fun F as H σ Q w e z => by
  refine h F as H σ _ w e fun x cs1 v F1 as1 H1 ⟨b, hx, h1⟩ s1 w1 r1 => ?_
  subst hx
  cases r1 with | d r1 => exact ⟨b, r1.bl_inv, z b cs1 F1 as1 H1 h1 s1 w1⟩
theorem et_B (h : Ev K C E cs te fun x cs1 => IsB x fun b => kb b cs1) : Evt K C E cs (tB te) kb := et_test h
theorem et_and (h : Evt K C E cs t fun b cs1 => if b = true then Evt K C E cs1 u kb else kb false cs1) : Evt K C E cs (tAnd t u) kb := fun F as H σ Q w e z => by
  refine h F as H σ _ w e fun b cs1 F1 as1 H1 h1 s1 w1 => ?_
  cases b with
  | true => exact h1 F1 as1 H1 σ Q w1 (e.mono s1.f s1.pre) fun b cs2 _ _ _ g t => z b cs2 _ _ _ g (s1.tr t)
  | false => exact z false cs1 F1 as1 H1 h1 s1 w1
theorem et_or (h : Evt K C E cs t fun b cs1 => if b = true then kb true cs1 else Evt K C E cs1 u kb) : Evt K C E cs (tOr t u) kb := fun F as H σ Q w e z => by
  refine h F as H σ _ w e fun b cs1 F1 as1 H1 h1 s1 w1 => ?_
  cases b with
  | false => exact h1 F1 as1 H1 σ Q w1 (e.mono s1.f s1.pre) fun b cs2 _ _ _ g t => z b cs2 _ _ _ g (s1.tr t)
  | true => exact z true cs1 F1 as1 H1 h1 s1 w1
theorem et_not (h : Evt K C E cs t fun b cs1 => kb (!b) cs1) : Evt K C E cs (tNot t) kb := fun F as H σ Q w e z => by
  refine h F as H σ _ w e fun b cs1 F1 as1 H1 h1 s1 w1 => ?_
  exact z (!b) cs1 F1 as1 H1 h1 s1 w1
theorem et_yes (h : kb true cs) : Evt K C E cs tYes kb := fun F as H σ Q w e z => z true cs F as H h Stp.refl w
end
/-! ### statements -/
section
variable {n : Nat} {D : AEnds} {t u : TS}
theorem ex_seq (h : Ex K C n E cs t { D with nx := fun E' cs' => Ex K C n E' cs' u D }) : Ex K C n E cs (tSeq t u) D := fun F as H σ Dc hn w e d => by
  refine h F as H σ _ hn w e ⟨fun E' cs' F' as' H' σ' g s w' e' => ?_, d.rt, d.bk, d.ct, d.ex⟩
  exact g F' as' H' σ' Dc (by rw [← w'.len]; exact s.len (by rw [w.len]; exact hn)) w' e' (d.later s)
theorem ex_asg {g : TG} (h : Ev K C E cs te fun x cs1 => ∀ F as H σ v (Q : St → Hp → Prop), n ≤ cs1.length → Wd K C F as cs1 H → EnvR K C F as E σ → AR K C F as x v → (∀ E' cs' F' as' H' σ', D.nx E' cs' → Stp n F as H F' as' H' → Wd K C F' as' cs' H' → EnvR K C F' as' E' σ' → Q σ' H') → g v σ H Q) : Ex K C n E cs (tAsg te g) D := fun F as H σ Dc hn w e d => by
  refine h F as H σ _ w e fun x cs1 v F1 as1 H1 h1 s1 w1 r1 => ?_
  have hn' : n ≤ as.length := by rw [w.len]; exact hn
  have s1' := s1.weak hn'
  refine h1 F1 as1 H1 σ v _ (by rw [← w1.len]; exact s1'.len hn') w1 (e.mono s1.f s1.pre) r1 fun E' cs' F' as' H' σ' g t w' e' => ?_
  exact d.nx E' cs' F' as' H' σ' g (s1'.trans t) w' e'
theorem ex_name {i : Nat} (h : Ev K C E cs te fun x cs1 => D.nx (E.set i (some x)) cs1) : Ex K C n E cs (tAsg te (gName i)) D :=
  ex_asg fun F as H σ Q w e z => h F as H σ Q w e fun x cs1 v F1 as1 H1 h1 s1 w1 r1 => z x cs1 v F1 as1 H1 (fun F as H σ v Q hn w e r q => q _ cs1 F as H _ h1 Stp.refl w (e.set r)) s1 w1 r1
theorem ex_ret (h : Ev K C E cs te D.rt) : Ex K C n E cs (tRet te) D := fun F as H σ Dc hn w e d =>
  h F as H σ _ w e fun x cs1 v F1 as1 H1 h1 s1 w1 r1 => d.rt x cs1 F1 as1 H1 v h1 (s1.weak (by rw [w.len]; exact hn)) w1 r1
theorem ex_retN (h : D.rt (.d .none) cs) : Ex K C n E cs tRetN D := fun F as H σ Dc hn w e d => d.rt _ cs F as H _ h Stp.refl w (.d .non)
theorem ex_drop (h : Ev K C E cs te fun _ cs1 => D.nx E cs1) : Ex K C n E cs (tDrop te) D := fun F as H σ Dc hn w e d =>
  h F as H σ _ w e fun x cs1 v F1 as1 H1 h1 s1 w1 r1 => d.nx E cs1 F1 as1 H1 σ h1 (s1.weak (by rw [w.len]; exact hn)) w1 (e.mono s1.f s1.pre)
theorem ex_next (h : D.nx E cs) : Ex K C n E cs tNext D := fun F as H σ Dc hn w e d => d.nx E cs F as H σ h Stp.refl w e
theorem ex_if {c : TT} (h : Evt K C E cs c fun b cs1 => if b = true then Ex K C n E cs1 t D else Ex K C n E cs1 u D) : Ex K C n E cs (tIfS c t u) D := fun F as H σ Dc hn w e d => by
  refine h F as H σ _ w e fun b cs1 F1 as1 H1 h1 s1 w1 => ?_
  have hn' : n ≤ as.length := by rw [w.len]; exact hn
  have s1' := s1.weak hn'
  have hc : n ≤ cs1.length := by rw [← w1.len]; exact s1'.len hn'
  cases b with
  | true => exact h1 F1 as1 H1 σ Dc hc w1 (e.mono s1.f s1.pre) (d.later s1')
  | false => exact h1 F1 as1 H1 σ Dc hc w1 (e.mono s1.f s1.pre) (d.later s1')
theorem ex_par {i j : Nat} (h : Evs K C E cs tas fun xs cs1 => Is2 xs fun x y => D.nx ((E.set i (some x)).set j (some y)) cs1) : Ex K C n E cs (tPar i j tas) D := fun F as H σ Dc hn w e d => by
  refine h F as H σ _ w e fun xs cs1 vs F1 as1 H1 ⟨x, y, hx, h1⟩ s1 w1 r1 => ?_
  subst hx
  cases r1 with | cons r1 r2 =>
  cases r2 with | cons r2 r3 =>
  cases r3
  exact ⟨_, _, rfl, d.nx _ cs1 F1 as1 H1 _ h1 (s1.weak (by rw [w.len]; exact hn)) w1 (((e.mono s1.f s1.pre).set r1).set r2)⟩
theorem ex_par3 {i j l : Nat} (h : Evs K C E cs tas fun xs cs1 => Is3 xs fun x y z => D.nx (((E.set i (some x)).set j (some y)).set l (some z)) cs1) : Ex K C n E cs (tPar3 i j l tas) D := fun F as H σ Dc hn w e d => by
  refine h F as H σ _ w e fun xs cs1 vs F1 as1 H1 ⟨x, y, z, hx, h1⟩ s1 w1 r1 => ?_
  subst hx
  cases r1 with | cons r1 r2 =>
  cases r2 with | cons r2 r3 =>
  cases r3 with | cons r3 r4 =>
  cases r4
  exact ⟨_, _, _, rfl, d.nx _ cs1 F1 as1 H1 _ h1 (s1.weak (by rw [w.len]; exact hn)) w1 ((((e.mono s1.f s1.pre).set r1).set r2).set r3)⟩
/-- a cut: one continuation for several ways -/
theorem ex_cut (Mid : AEnv → List Cell → Prop) (h : Ex K C n E cs t { D with nx := Mid }) (q : ∀ E' cs', Mid E' cs' → Ex K C n E' cs' u D) : Ex K C n E cs (tSeq t u) D :=
  ex_seq fun F as H σ Dc hn w e d => h F as H σ _ hn w e ⟨fun E' cs' F' as' H' σ' g => d.nx E' cs' F' as' H' σ' (q E' cs' g), d.rt, d.bk, d.ct, d.ex⟩
/-! ### dropping what is no longer needed -/
def maskE : List Bool → AEnv → AEnv
  | true :: ms, e :: es => e :: maskE ms es
  | false :: ms, _ :: es => none :: maskE ms es
  | _, _ => []
def ltE (n : Nat) : AEnv → Bool
  | [] => true
  | some x :: es => AV.lt n x && ltE n es
  | none :: es => ltE n es
def ltC (n : Nat) : List Cell → Bool
  | [] => true
  | c :: cs => Cell.lt n c && ltC n cs
theorem ltE_get : ∀ {E : AEnv} {n i : Nat} {x : AV}, ltE n E = true → E[i]? = some (some x) → AV.lt n x = true
  | [], _, _, _, _, h => by simp at h
  | some y :: es, n, 0, x, h, g => by
    simp at g; subst g
    simp only [ltE, Bool.and_eq_true] at h; exact h.1
  | some y :: es, n, i + 1, x, h, g => by
    simp only [ltE, Bool.and_eq_true] at h; exact ltE_get h.2 (by simpa using g)
  | none :: es, n, 0, x, h, g => by simp at g
  | none :: es, n, i + 1, x, h, g => by exact ltE_get (by simpa [ltE] using h) (by simpa using g)
theorem ltC_get {cs : List Cell} {n : Nat} {c : Cell} (h : ltC n cs = true) (m : c ∈ cs) : Cell.lt n c = true := by
  induction cs with
  | nil => exact absurd m List.not_mem_nil
  | cons d ds ih =>
    rw [ltC, Bool.and_eq_true] at h
    rcases List.mem_cons.mp m with e | m
    · rw [e]; exact h.1
    · exact ih h.2 m
theorem maskE_get : ∀ {ms : List Bool} {E : AEnv} {i : Nat} {x : AV}, (maskE ms E)[i]? = some (some x) → E[i]? = some (some x)
  | true :: ms, e :: es, 0, x, h => by simpa [maskE] using h
  | true :: ms, e :: es, i + 1, x, h => by simpa using maskE_get (ms := ms) (by simpa [maskE] using h)
  | false :: ms, e :: es, 0, x, h => by simp [maskE] at h
  | false :: ms, e :: es, i + 1, x, h => by simpa using maskE_get (ms := ms) (by simpa [maskE] using h)
  | [], _, _, _, h => by simp [maskE] at h
  | true :: _, [], _, _, h => by simp [maskE] at h
  | false :: _, [], _, _, h => by simp [maskE] at h
theorem maskE_len : ∀ {ms : List Bool} {E : AEnv}, ms.length = E.length → (maskE ms E).length = E.length
  | [], [], _ => rfl
  | true :: ms, e :: es, h => by simp [maskE, maskE_len (ms := ms) (E := es) (by simpa using h)]
  | false :: ms, e :: es, h => by simp [maskE, maskE_len (ms := ms) (E := es) (by simpa using h)]
theorem EnvR.mask {σ : St} {ms : List Bool} {n : Nat} (e : EnvR K C F as E σ) (hl : ms.length = E.length) (h : ltE n (maskE ms E) = true) : EnvR K C F (as.take n) (maskE ms E) σ :=
  ⟨by rw [maskE_len hl]; exact e.len, fun i x hx => by
    obtain ⟨v, h1, h2⟩ := e.get i x (maskE_get hx)
    exact ⟨v, h1, h2.cut (ltE_get h hx)⟩⟩
/-- P holds once some of the environment and the cells from the j-th on are dropped -/
def Cl (n : Nat) (P : AEnv → List Cell → Prop) (E : AEnv) (cs : List Cell) : Prop :=
  ∃ (ms : List Bool) (j : Nat), ms.length = E.length ∧ n ≤ j ∧ ltE j (maskE ms E) = true ∧ ltC j (cs.take j) = true ∧ P (maskE ms E) (cs.take j)
theorem Cl.run {P : AEnv → List Cell → Prop} (c : Cl n P E cs) {σ : St} {R : Prop} (w : Wd K C F' as' cs H') (e : EnvR K C F' as' E σ) (s : Stp n F as H F' as' H')
    (q : ∀ E1 cs1 as1, P E1 cs1 → Stp n F as H F' as1 H' → Wd K C F' as1 cs1 H' → EnvR K C F' as1 E1 σ → R) : R := by
  obtain ⟨ms, j, h1, h2, h3, h4, h5⟩ := c
  exact q _ _ _ h5 (s.cut h2) (w.cut fun c hc => ltC_get h4 hc) (e.mask h1 h3)
end
end
end Y

/-! # Pure states: other numbers for the cells -/
namespace Y
open PySem L2
/-! ### other numbers for the cells -/
mutual
def AV.ren (ρ : Nat → Nat) : AV → AV
  | .d x => .d x
  | .tup xs => .tup (AV.renAll ρ xs)
  | .cel i => .cel (ρ i)
  | .sub i j => .sub (ρ i) j
  | .scr ds => .scr ds
  | .ty s => .ty s
  | .dct => .dct
  | .raw v => .raw v
  | .exn a b f x => .exn a b f (AV.ren ρ x)
def AV.renAll (ρ : Nat → Nat) : List AV → List AV
  | [] => []
  | x :: xs => AV.ren ρ x :: AV.renAll ρ xs
end
def Cell.ren (ρ : Nat → Nat) : Cell → Cell
  | .a xs => .a (AV.renAll ρ xs)
  | .k lk kvs => .k lk (kvs.map fun p => (p.1, AV.ren ρ p.2))
  | .l ds => .l ds
  | .g ix rs => .g ix rs
  | .m lk ks rs => .m lk ks rs
  | .x => .x
  | .o φ => .o φ
section
variable {K : PySem.W.Frag} {C : Addr} {F F' H H' : Hp} {as as' : Own} {cs cs' cs1 : List Cell} {E : AEnv} {tas : TA}
mutual
theorem AR.ren {ρ : Nat → Nat} (h : ∀ (j : Nat) own, as[j]? = some own → as'[ρ j]? = some own) : ∀ {x : AV} {v : V}, AR K C F as x v → AR K C F as' (x.ren ρ) v
  | .d _, _, r => by cases r with | d r => exact .d r
  | .tup xs, _, r => by cases r with | tup r1 r2 => exact .tup r1 (ARs.ren h r2)
  | .cel i, _, r => by cases r with | cel r => exact .cel (h _ _ r)
  | .sub i j, _, r => by cases r with | sub r1 r2 => exact .sub (h _ _ r1) r2
  | .scr _, _, r => by cases r with | scr r => exact .scr r
  | .ty _, _, r => by cases r; exact .ty
  | .dct, _, r => by cases r with | dct r => exact .dct r
  | .raw _, _, r => by cases r; exact .raw
  | .exn _ _ _ _, _, r => by cases r with | exn r1 r2 => exact .exn r1 (AR.ren h r2)
theorem ARs.ren {ρ : Nat → Nat} (h : ∀ (j : Nat) own, as[j]? = some own → as'[ρ j]? = some own) : ∀ {xs : List AV} {vs : List V}, ARs K C F as xs vs → ARs K C F as' (AV.renAll ρ xs) vs
  | [], _, r => by cases r; exact .nil
  | x :: xs, _, r => by cases r with | cons r1 r2 => exact .cons (AR.ren h r1) (ARs.ren h r2)
end
mutual
theorem AR.unren {ρ : Nat → Nat} {n : Nat} (h : ∀ (j : Nat), j < n → as[ρ j]? = as'[j]?) : ∀ {x : AV} {v : V}, AV.lt n x = true → AR K C F as (x.ren ρ) v → AR K C F as' x v
  | .d _, _, _, r => by cases r with | d r => exact .d r
  | .tup xs, _, l, r => by cases r with | tup r1 r2 => exact .tup r1 (ARs.unren h (by simpa only [AV.lt] using l) r2)
  | .cel i, _, l, r => by cases r with | cel r => exact .cel (by rw [← h i (by simpa [AV.lt] using l)]; exact r)
  | .sub i j, _, l, r => by cases r with | sub r1 r2 => exact .sub (by rw [← h i (by simpa [AV.lt] using l)]; exact r1) r2
  | .scr _, _, _, r => by cases r with | scr r => exact .scr r
  | .ty _, _, _, r => by cases r; exact .ty
  | .dct, _, _, r => by cases r with | dct r => exact .dct r
  | .raw _, _, _, r => by cases r; exact .raw
  | .exn _ _ _ _, _, l, r => by cases r with | exn r1 r2 => exact .exn r1 (AR.unren h (by simpa only [AV.lt] using l) r2)
theorem ARs.unren {ρ : Nat → Nat} {n : Nat} (h : ∀ (j : Nat), j < n → as[ρ j]? = as'[j]?) : ∀ {xs : List AV} {vs : List V}, AV.ltAll n xs = true → ARs K C F as (AV.renAll ρ xs) vs → ARs K C F as' xs vs
  | [], _, _, r => by cases r; exact .nil
  | x :: xs, _, l, r => by
    simp only [AV.ltAll, Bool.and_eq_true] at l
    cases r with | cons r1 r2 => exact .cons (AR.unren h l.1 r1) (ARs.unren h l.2 r2)
end
theorem renAll_map {ρ : Nat → Nat} : ∀ xs : List AV, AV.renAll ρ xs = xs.map (AV.ren ρ)
  | [] => rfl
  | x :: xs => by rw [AV.renAll, renAll_map xs]; rfl
theorem CellOk.ren {ρ : Nat → Nat} {own : List Addr} {c : Cell} (h : ∀ (j : Nat) own, as[j]? = some own → as'[ρ j]? = some own) (k : CellOk K C F as H own c) : CellOk K C F as' H own (c.ren ρ) := by
  cases k with
  | l h1 h2 => exact .l h1 h2
  | a h1 h2 => exact .a h1 (h2.ren h)
  | k h0 h1 h2 h3 =>
    refine .k h0 h1 (by rw [h2, List.map_map]; rfl) ?_
    have := h3.ren h
    rw [renAll_map, List.map_map] at this
    rw [List.map_map]; exact this
  | g h1 h2 h3 => exact .g h1 h2 h3
  | m h1 h2 h3 => exact .m h1 h2 h3
  | x => exact .x
  | o h => exact .o h
theorem CellOk.unren {ρ : Nat → Nat} {n : Nat} {own : List Addr} {c : Cell} (h : ∀ (j : Nat), j < n → as[ρ j]? = as'[j]?) (l : Cell.lt n c = true) (k : CellOk K C F as H own (c.ren ρ)) : CellOk K C F as' H own c := by
  cases c with
  | l ds => cases k with | l h1 h2 => exact .l h1 h2
  | a xs => cases k with | a h1 h2 => exact .a h1 (h2.unren h l)
  | k lk kvs =>
    cases k with | k h0 h1 h2 h3 =>
    refine .k h0 h1 (by rw [h2, List.map_map]; rfl) ?_
    refine ARs.unren h l ?_
    rw [renAll_map, List.map_map]
    rw [List.map_map] at h3; exact h3
  | g ix rs => cases k with | g h1 h2 h3 => exact .g h1 h2 h3
  | m lk ks rs => cases k with | m h1 h2 h3 => exact .m h1 h2 h3
  | x => exact .x
  | o φ => cases k with | o h => exact .o h
def EnvSel (ρ : Nat → Nat) (n : Nat) : AEnv → AEnv → Prop
  | [], [] => True
  | none :: es, _ :: fs => EnvSel ρ n es fs
  | some x :: es, f :: fs => f = some (x.ren ρ) ∧ AV.lt n x = true ∧ EnvSel ρ n es fs
  | _, _ => False
theorem EnvSel.len {ρ : Nat → Nat} {n : Nat} : ∀ {E1 E : AEnv}, EnvSel ρ n E1 E → E1.length = E.length
  | [], [], _ => rfl
  | none :: es, _ :: fs, h => by simp [EnvSel.len (E1 := es) (E := fs) h]
  | some x :: es, f :: fs, h => by simp [EnvSel.len (E1 := es) (E := fs) h.2.2]
theorem EnvSel.get {ρ : Nat → Nat} {n : Nat} : ∀ {E1 E : AEnv} {i : Nat} {x : AV}, EnvSel ρ n E1 E → E1[i]? = some (some x) → E[i]? = some (some (x.ren ρ)) ∧ AV.lt n x = true
  | [], _, _, _, _, e => by simp at e
  | none :: es, _ :: fs, 0, _, h, e => by simp at e
  | none :: es, _ :: fs, i + 1, x, h, e => by simpa using EnvSel.get (E1 := es) (E := fs) (i := i) h (by simpa using e)
  | some y :: es, f :: fs, 0, x, h, e => by
    simp at e; subst e
    exact ⟨by rw [h.1]; rfl, h.2.1⟩
  | some y :: es, f :: fs, i + 1, x, h, e => by simpa using EnvSel.get (E1 := es) (E := fs) (i := i) h.2.2 (by simpa using e)
  | some _ :: _, [], _, _, h, _ => h.elim
  | none :: _, [], _, _, h, _ => h.elim
/-- the cells js are kept, the first n in their places -/
structure Sel (n : Nat) (js : List Nat) (E1 : AEnv) (cs1 : List Cell) (E : AEnv) (cs : List Cell) : Prop where
  nd : js.Nodup
  base : js.take n = List.range n
  env : EnvSel (fun j => js.getD j 0) js.length E1 E
  cells : js.map (fun i => cs[i]?) = cs1.map (fun c => some (c.ren fun j => js.getD j 0))
  cl : ltC js.length cs1 = true
theorem Sel.run {n : Nat} {js : List Nat} {E1 : AEnv} {F0 : Hp} {as0 : Own} {H0 : Hp} {σ : St} (S : Sel n js E1 cs1 E cs) (w : Wd K C F as cs H) (e : EnvR K C F as E σ) (s : Stp n F0 as0 H0 F as H) :
    ∃ as1, Stp n F0 as0 H0 F as1 H ∧ Wd K C F as1 cs1 H ∧ EnvR K C F as1 E1 σ := by
  have hlen : cs1.length = js.length := by have := congrArg List.length S.cells; simpa using this.symm
  have hlt : ∀ i ∈ js, i < as.length := fun i hi => by
    obtain ⟨j, hj⟩ := List.mem_iff_getElem?.mp hi
    have := congrArg (fun l => l[j]?) S.cells
    simp only [List.getElem?_map, hj, Option.map_some] at this
    cases e1 : cs1[j]? with
    | none =>
      have := (List.getElem?_eq_none_iff.mp e1); have := (List.getElem?_eq_some_iff.mp hj).1; omega
    | some c =>
      rw [e1] at this
      rw [w.len]
      exact (List.getElem?_eq_some_iff.mp (Option.some.inj this)).1
  obtain ⟨sel, hs⟩ : ∃ sel : Own, sel = js.map fun i => as.getD i [] := ⟨_, rfl⟩
  have hsl : sel.length = js.length := by rw [hs, List.length_map]
  have getD_eq : ∀ i, i < as.length → as[i]? = some (as.getD i []) := fun i hi => by rw [List.getD_eq_getElem?_getD, List.getElem?_eq_getElem hi]; rfl
  have hsel : ∀ (j : Nat) own, sel[j]? = some own → ∃ i, js[j]? = some i ∧ as[i]? = some own := fun j own h => by
    rw [hs, List.getElem?_map] at h
    obtain ⟨i, h1, h2⟩ := Option.map_eq_some_iff.mp h
    exact ⟨i, h1, by rw [getD_eq i (hlt i (List.mem_of_getElem? h1)), h2]⟩
  have rsel : ∀ (j : Nat), j < js.length → as[js.getD j 0]? = sel[j]? := fun j hj => by
    have e1 : js[j]? = some js[j] := List.getElem?_eq_getElem hj
    have e2 : js.getD j 0 = js[j] := by rw [List.getD_eq_getElem?_getD, e1]; rfl
    rw [e2, getD_eq _ (hlt _ (List.getElem_mem hj)), hs, List.getElem?_map, e1]; rfl
  have inj : ∀ {j j' i : Nat}, js[j]? = some i → js[j']? = some i → j = j' := fun {j j' i} h1 h2 => by
    obtain ⟨b1, e1⟩ := List.getElem?_eq_some_iff.mp h1
    obtain ⟨b2, e2⟩ := List.getElem?_eq_some_iff.mp h2
    exact (List.getElem_inj (h₀ := b1) (h₁ := b2) S.nd).mp (e1.trans e2.symm)
  refine ⟨sel, ⟨s.f, fun i hi own ho => ?_, s.fr, s.dm, s.nf, fun b ⟨j, own, hj, hb⟩ => ?_⟩, ⟨w.fro, fun j own hj => ?_, fun j j' own own' hj hj' hne => ?_, fun j own hj => ?_, by rw [hsl, hlen], fun j own c hj hc => ?_, fun j own hj => ?_, w.tp⟩, ⟨S.env.len.trans e.len, fun i x hx => ?_⟩⟩
  · obtain ⟨r, hr⟩ := s.a i hi own ho
    have e1 : js[i]? = some i := by
      have := congrArg (fun l => l[i]?) S.base
      simp only [List.getElem?_take, if_pos hi] at this
      rw [this, List.getElem?_range hi]
    exact ⟨r, by rw [hs, List.getElem?_map, e1]; show some (as.getD i []) = _; rw [← getD_eq i (List.getElem?_eq_some_iff.mp hr).1]; exact hr⟩
  · obtain ⟨i, _, h2⟩ := hsel j own hj
    exact s.na b ⟨i, own, h2, hb⟩
  · obtain ⟨i, _, h2⟩ := hsel j own hj
    exact w.dis i own h2
  · obtain ⟨i, h1, h2⟩ := hsel j own hj
    obtain ⟨i', h1', h2'⟩ := hsel j' own' hj'
    exact w.sep i i' own own' h2 h2' fun z => hne (inj h1 (z ▸ h1'))
  · obtain ⟨i, _, h2⟩ := hsel j own hj
    exact w.nd i own h2
  · obtain ⟨i, h1, h2⟩ := hsel j own hj
    have hc2 : cs[i]? = some (c.ren (fun j => js.getD j 0)) := by
      have := congrArg (fun l => l[j]?) S.cells
      simp only [List.getElem?_map, h1, hc, Option.map_some] at this
      exact Option.some.inj this
    exact CellOk.unren rsel (ltC_get S.cl (List.mem_of_getElem? hc)) (w.ok i own _ h2 hc2)
  · obtain ⟨i, _, h2⟩ := hsel j own hj
    exact w.mu i own h2
  · obtain ⟨g1, g2⟩ := S.env.get hx
    obtain ⟨v, g3, g4⟩ := e.get i _ g1
    exact ⟨v, g3, AR.unren rsel g2 g4⟩
/-- P holds once some things are dropped -/
def Cm (n : Nat) (P : AEnv → List Cell → Prop) (E : AEnv) (cs : List Cell) : Prop := Cl n P E cs ∨ (∃ js E1 cs1, Sel n js E1 cs1 E cs ∧ P E1 cs1) ∨ P E cs
theorem Cm.run {n : Nat} {P : AEnv → List Cell → Prop} {F0 : Hp} {as0 : Own} {H0 : Hp} (c : Cm n P E cs) {σ : St} {R : Prop} (w : Wd K C F as cs H) (e : EnvR K C F as E σ) (s : Stp n F0 as0 H0 F as H)
    (q : ∀ E1 cs1 as1, P E1 cs1 → Stp n F0 as0 H0 F as1 H → Wd K C F as1 cs1 H → EnvR K C F as1 E1 σ → R) : R := by
  rcases c with c | ⟨js, E1, cs1, S, hp⟩ | hp
  · exact c.run w e s q
  · obtain ⟨as1, s1, w1, e1⟩ := S.run w e s
    exact q E1 cs1 as1 hp s1 w1 e1
  · exact q E cs as hp s w e
theorem Cm.mask {n : Nat} {P : AEnv → List Cell → Prop} (ms : List Bool) (j : Nat) (h1 : ms.length = E.length) (h2 : n ≤ j) (h3 : ltE j (maskE ms E) = true) (h4 : ltC j (cs.take j) = true) (h : P (maskE ms E) (cs.take j)) : Cm n P E cs := .inl ⟨ms, j, h1, h2, h3, h4, h⟩
theorem Cm.sel {n : Nat} {P : AEnv → List Cell → Prop} (js : List Nat) {E1 : AEnv} (S : Sel n js E1 cs1 E cs) (h : P E1 cs1) : Cm n P E cs := .inr (.inl ⟨js, E1, cs1, S, h⟩)
theorem Cm.here {n : Nat} {P : AEnv → List Cell → Prop} (h : P E cs) : Cm n P E cs := .inr (.inr h)
end
end Y

/-! # Pure states: targets, loops, comprehensions -/
namespace Y
open PySem L2
section
variable {K : PySem.W.Frag} {C : Addr} {F F' H H' : Hp} {as as' : Own} {cs cs' cs1 : List Cell} {E : AEnv} {ta tb te tc : TE} {tas tar : TA} {n m : Nat} {D : AEnds}
/-! ### targets -/
def Eg (K : PySem.W.Frag) (C : Addr) (n : Nat) (E : AEnv) (y : AV) (cs : List Cell) (g : TG) (kg : AEnv → List Cell → Prop) : Prop :=
  ∀ F as H σ v (Q : St → Hp → Prop), n ≤ cs.length → Wd K C F as cs H → EnvR K C F as E σ → AR K C F as y v → (∀ E' cs' F' as' H' σ', kg E' cs' → Stp n F as H F' as' H' → Wd K C F' as' cs' H' → EnvR K C F' as' E' σ' → Q σ' H') → g v σ H Q
def Egs (K : PySem.W.Frag) (C : Addr) (n : Nat) (E : AEnv) (ys : List AV) (cs : List Cell) (g : TGs) (kg : AEnv → List Cell → Prop) : Prop :=
  ∀ F as H σ vs (Q : St → Hp → Prop), n ≤ cs.length → Wd K C F as cs H → EnvR K C F as E σ → ARs K C F as ys vs → (∀ E' cs' F' as' H' σ', kg E' cs' → Stp n F as H F' as' H' → Wd K C F' as' cs' H' → EnvR K C F' as' E' σ' → Q σ' H') → g vs σ H Q
variable {kg : AEnv → List Cell → Prop}
theorem ex_to {g : TG} (h : Ev K C E cs te fun x cs1 => Eg K C n E x cs1 g D.nx) : Ex K C n E cs (tAsg te g) D := ex_asg h
theorem eg_name {i : Nat} {y : AV} (h : kg (E.set i (some y)) cs) : Eg K C n E y cs (gName i) kg := fun F as H σ v Q _ w e r q => q _ cs F as H _ h Stp.refl w (e.set r)
theorem egs_nil (h : kg E cs) : Egs K C n E [] cs gNil kg := fun F as H σ vs Q _ w e r q => by cases r; exact ⟨rfl, q E cs F as H σ h Stp.refl w e⟩
theorem egs_cons {i : Nat} {gr : TGs} {y : AV} {ys : List AV} (h : Egs K C n (E.set i (some y)) ys cs gr kg) : Egs K C n E (y :: ys) cs (gCons (gName i) gr) kg := fun F as H σ vs Q hn w e r q => by
  cases r with | cons r1 r2 => exact ⟨_, _, rfl, h F as H _ _ Q hn w (e.set r1) r2 q⟩
theorem eg_tupD {l : Nat} {gs : TGs} {ds : List PyData} (hl : ds.length = l) (h : Egs K C n E (ds.map AV.d) cs gs kg) : Eg K C n E (.d (.tuple ds)) cs (gTup K l gs) kg := fun F as H σ v Q hn w e r q => by
  cases r with | d r =>
  obtain ⟨a, xs, rfl, h1, h2⟩ := r.tup_inv
  exact ⟨a, xs, rfl, w.fro.sqT h1, by rw [h2.length]; exact hl, h F as H σ xs Q hn w e (ARs.data h2) q⟩
theorem eg_tup {l : Nat} {gs : TGs} {ys : List AV} (hl : ys.length = l) (h : Egs K C n E ys cs gs kg) : Eg K C n E (.tup ys) cs (gTup K l gs) kg := fun F as H σ v Q hn w e r q => by
  cases r with | tup h1 h2 => exact ⟨_, _, rfl, w.fro.sqT h1, by rw [← h2.length]; exact hl, h F as H σ _ Q hn w e h2 q⟩
/-! ### what a loop goes over -/
structure Src (K : PySem.W.Frag) (C : Addr) (J : It) (m : Nat) (F0 : Hp) (as0 : Own) (H0 : Hp) (ok : List Cell → Prop) (items : List AV) : Prop where
  turn : ∀ (t : Nat) y F as cs H, items[t]? = some y → ok cs → Stp m F0 as0 H0 F as H → Wd K C F as cs H → J.go t H ∧ ∀ x H', J.yld t H x H' → ∃ F', Stp as.length F as H F' as H' ∧ Wd K C F' as cs H' ∧ AR K C F' as y x
  stop : ∀ F as cs H, ok cs → Stp m F0 as0 H0 F as H → Wd K C F as cs H → J.stop items.length H
def Evi (K : PySem.W.Frag) (C : Addr) (m : Nat) (E : AEnv) (cs : List Cell) (wi : TI) (ki : List AV → (List Cell → Prop) → List Cell → Prop) : Prop :=
  ∀ (F : Hp) (as : Own) (H : Hp) (σ : St) (R : It → Hp → Prop), Wd K C F as cs H → EnvR K C F as E σ →
    (∀ items ok cs1 F1 as1 H1 J, ki items ok cs1 → Stp as.length F as H F1 as1 H1 → Wd K C F1 as1 cs1 H1 → Src K C J m F1 as1 H1 ok items → R J H1) → wi σ H R
variable {ki : List AV → (List Cell → Prop) → List Cell → Prop}
theorem sq_some {xs : List V} {ds : List AV} (r : ARs K C F as ds xs) {t : Nat} {y : AV} (h : ds[t]? = some y) : ∃ v, xs[t]? = some v ∧ AR K C F as y v := r.get h
/-- a list that is frozen -/
theorem ei_listD (h : Ev K C E cs te fun x cs1 => IsL x fun ds => ki (ds.map AV.d) (fun _ => True) cs1) : Evi K C m E cs (iList K te) ki := fun F as H σ R w e q => by
  refine h F as H σ _ w e fun x cs1 v F1 as1 H1 ⟨ds, hx, h1⟩ s1 w1 r1 => ?_
  subst hx
  cases r1 with | d r1 =>
  obtain ⟨a, xs, rfl, hs, hd⟩ := r1.lst_inv
  have hl := hd.length
  refine ⟨a, rfl, ⟨xs, hs.same w1.fro⟩, q _ _ cs1 F1 as1 H1 _ h1 s1 w1 ⟨fun t y F2 as2 cs2 H2 ht _ s2 w2 => ?_, fun F2 as2 cs2 H2 _ s2 w2 => ?_⟩⟩
  · have hs2 := (hs.same s2.f).same w2.fro
    obtain ⟨v, hv, rv⟩ := (ARs.data (C := C) (as := as2) (s2.f.dpAll hd)).get ht
    exact ⟨⟨xs, v, hs2, hv⟩, fun x H' ⟨e1, e2⟩ => ⟨F2, by rw [e1]; exact Stp.refl, by rw [e1]; exact w2, by have := e2 xs hs2; rw [hv] at this; cases this; exact rv⟩⟩
  · have hs2 := (hs.same s2.f).same w2.fro
    exact ⟨xs, hs2, by rw [List.length_map, hl]; exact Nat.le_refl _⟩
theorem ei_tupD (h : Ev K C E cs te fun x cs1 => IsT x fun ds => ki (ds.map AV.d) (fun _ => True) cs1) : Evi K C m E cs (iTup K te) ki := fun F as H σ R w e q => by
  refine h F as H σ _ w e fun x cs1 v F1 as1 H1 ⟨ds, hx, h1⟩ s1 w1 r1 => ?_
  subst hx
  cases r1 with | d r1 =>
  obtain ⟨a, xs, rfl, hs, hd⟩ := r1.tup_inv
  have hl := hd.length
  refine ⟨a, rfl, ⟨xs, w1.fro.sqT hs⟩, q _ _ cs1 F1 as1 H1 _ h1 s1 w1 ⟨fun t y F2 as2 cs2 H2 ht _ s2 w2 => ?_, fun F2 as2 cs2 H2 _ s2 w2 => ?_⟩⟩
  · have hs2 := w2.fro.sqT (s2.f.sqT hs)
    obtain ⟨v, hv, rv⟩ := (ARs.data (C := C) (as := as2) (s2.f.dpAll hd)).get ht
    exact ⟨⟨xs, v, hs2, hv⟩, fun x H' ⟨e1, e2⟩ => ⟨F2, by rw [e1]; exact Stp.refl, by rw [e1]; exact w2, by have := e2 xs hs2; rw [hv] at this; cases this; exact rv⟩⟩
  · have hs2 := w2.fro.sqT (s2.f.sqT hs)
    exact ⟨xs, hs2, by rw [List.length_map, hl]; exact Nat.le_refl _⟩
/-- what a list cell holds -/
theorem Wd.lst (w : Wd K C F as cs H) {i : Nat} {ds : List PyData} {p : Addr} {r : List Addr} (hp : as[i]? = some (p :: r)) (h : cs[i]? = some (.l ds)) : r = [] ∧ ∃ vs, H p = some (.lst vs) ∧ DpAll K F vs ds := by
  have := w.ok i _ _ hp h
  cases this with | l h1 h2 => exact ⟨rfl, _, h1, h2⟩
theorem Wd.lsa (w : Wd K C F as cs H) {i : Nat} {xs : List AV} {p : Addr} {r : List Addr} (hp : as[i]? = some (p :: r)) (h : cs[i]? = some (.a xs)) : r = [] ∧ ∃ vs, H p = some (.lst vs) ∧ ARs K C F as xs vs := by
  have := w.ok i _ _ hp h
  cases this with | a h1 h2 => exact ⟨rfl, _, h1, h2⟩
/-- a list cell, unchanged through the loop -/
theorem ei_listC (j : Nat) (hj : j < m) (h : Ev K C E cs te fun x cs1 => x = .cel j ∧ ∃ ds, cs1[j]? = some (.l ds) ∧ ki (ds.map AV.d) (fun cs2 => cs2[j]? = some (.l ds)) cs1) : Evi K C m E cs (iList K te) ki := fun F as H σ R w e q => by
  refine h F as H σ _ w e fun x cs1 v F1 as1 H1 ⟨hx, ds, hc, h1⟩ s1 w1 r1 => ?_
  subst hx
  cases r1 with | cel hp =>
  obtain ⟨rfl, vs, hH, hd⟩ := w1.lst hp hc
  refine ⟨_, rfl, ⟨vs, SqL.of hH⟩, q _ _ cs1 F1 as1 H1 _ h1 s1 w1 ⟨fun t y F2 as2 cs2 H2 ht hok s2 w2 => ?_, fun F2 as2 cs2 H2 hok s2 w2 => ?_⟩⟩
  · obtain ⟨r, hr⟩ := s2.a j hj _ hp
    obtain ⟨_, vs2, hH2, hd2⟩ := w2.lst hr hok
    obtain ⟨v, hv, rv⟩ := (ARs.data (C := C) (as := as2) hd2).get ht
    have hs2 : SqL K H2 _ vs2 := SqL.of hH2
    exact ⟨⟨vs2, v, hs2, hv⟩, fun x H' ⟨e1, e2⟩ => ⟨F2, by rw [e1]; exact Stp.refl, by rw [e1]; exact w2, by have := e2 vs2 hs2; rw [hv] at this; cases this; exact rv⟩⟩
  · obtain ⟨r, hr⟩ := s2.a j hj _ hp
    obtain ⟨_, vs2, hH2, hd2⟩ := w2.lst hr hok
    exact ⟨vs2, SqL.of hH2, by rw [List.length_map, hd2.length]; exact Nat.le_refl _⟩
theorem ei_listA (j : Nat) (hj : j < m) (h : Ev K C E cs te fun x cs1 => x = .cel j ∧ ∃ xs, cs1[j]? = some (.a xs) ∧ ki xs (fun cs2 => cs2[j]? = some (.a xs)) cs1) : Evi K C m E cs (iList K te) ki := fun F as H σ R w e q => by
  refine h F as H σ _ w e fun x cs1 v F1 as1 H1 ⟨hx, ds, hc, h1⟩ s1 w1 r1 => ?_
  subst hx
  cases r1 with | cel hp =>
  obtain ⟨rfl, vs, hH, hd⟩ := w1.lsa hp hc
  refine ⟨_, rfl, ⟨vs, SqL.of hH⟩, q _ _ cs1 F1 as1 H1 _ h1 s1 w1 ⟨fun t y F2 as2 cs2 H2 ht hok s2 w2 => ?_, fun F2 as2 cs2 H2 hok s2 w2 => ?_⟩⟩
  · obtain ⟨r, hr⟩ := s2.a j hj _ hp
    obtain ⟨_, vs2, hH2, hd2⟩ := w2.lsa hr hok
    obtain ⟨v, hv, rv⟩ := hd2.get ht
    have hs2 : SqL K H2 _ vs2 := SqL.of hH2
    exact ⟨⟨vs2, v, hs2, hv⟩, fun x H' ⟨e1, e2⟩ => ⟨F2, by rw [e1]; exact Stp.refl, by rw [e1]; exact w2, by have := e2 vs2 hs2; rw [hv] at this; cases this; exact rv⟩⟩
  · obtain ⟨r, hr⟩ := s2.a j hj _ hp
    obtain ⟨_, vs2, hH2, hd2⟩ := w2.lsa hr hok
    exact ⟨vs2, SqL.of hH2, by rw [hd2.length]; exact Nat.le_refl _⟩
def rngA (lo : Int) (n : Nat) : List AV := (List.range n).map fun (t : Nat) => .d (.int (lo + (t : Int)))
theorem rngA_get {lo : Int} {n t : Nat} {y : AV} (h : (rngA lo n)[t]? = some y) : t < n ∧ y = .d (.int (lo + (t : Int))) := by
  unfold rngA at h
  rw [List.getElem?_map] at h
  obtain ⟨j, hj, rfl⟩ := Option.map_eq_some_iff.mp h
  obtain ⟨h1, h2⟩ := List.getElem?_eq_some_iff.mp hj
  rw [List.length_range] at h1
  rw [List.getElem_range] at h2
  subst h2
  exact ⟨h1, rfl⟩
theorem rngA_len {lo : Int} {n : Nat} : (rngA lo n).length = n := by simp [rngA]
theorem src_rng {lo : Int} {n : Nat} {H0 : Hp} {as0 : Own} {F0 : Hp} : Src K C (Itr lo n) m F0 as0 H0 (fun _ => True) (rngA lo n) :=
  ⟨fun t y F2 as2 cs2 H2 ht _ s2 w2 => by
    obtain ⟨h1, rfl⟩ := rngA_get ht
    exact ⟨h1, fun x H' ⟨e1, e2⟩ => ⟨F2, by rw [e1]; exact Stp.refl, by rw [e1]; exact w2, by rw [e2]; exact .d (.int _)⟩⟩, fun F2 as2 cs2 H2 _ s2 w2 => by rw [rngA_len]; exact Nat.le_refl n⟩
theorem ei_rng1 (h : Evs K C E cs tas fun xs cs1 => IsI1 xs fun j => -(2 ^ 62) ≤ j ∧ j < 2 ^ 62 ∧ ki (rngA 0 j.toNat) (fun _ => True) cs1) : Evi K C m E cs (iRng1 tas) ki := fun F as H σ R w e q => by
  refine h F as H σ _ w e fun xs cs1 vs F1 as1 H1 ⟨j, hx, hj1, hj2, h1⟩ s1 w1 r1 => ?_
  subst hx
  cases r1 with | cons r1 r2 =>
  cases r2
  cases r1 with | d r1 =>
  exact ⟨j, by rw [r1.int_inv], hj1, hj2, q _ _ cs1 F1 as1 H1 _ h1 s1 w1 src_rng⟩
theorem ei_rng2 (h : Evs K C E cs tas fun xs cs1 => IsI2 xs fun i j => (-(2 ^ 62) ≤ i ∧ i < 2 ^ 62 ∧ -(2 ^ 62) ≤ j ∧ j < 2 ^ 62) ∧ ki (rngA i (j - i).toNat) (fun _ => True) cs1) : Evi K C m E cs (iRng2 tas) ki := fun F as H σ R w e q => by
  refine h F as H σ _ w e fun xs cs1 vs F1 as1 H1 ⟨i, j, hx, hb, h1⟩ s1 w1 r1 => ?_
  subst hx
  cases r1 with | cons r1 r2 =>
  cases r2 with | cons r2 r3 =>
  cases r3
  cases r1 with | d r1 =>
  cases r2 with | d r2 =>
  exact ⟨i, j, by rw [r1.int_inv, r2.int_inv], hb, q _ _ cs1 F1 as1 H1 _ h1 s1 w1 src_rng⟩
/-! ### for -/
theorem ex_for {wi : TI} {g : TG} {t : TS} (m : Nat) (hnm : n ≤ m) (h : Evi K C m E cs wi fun items ok cs1 => m ≤ cs1.length ∧ ∃ Iv : Nat → AEnv → List Cell → Prop, Iv 0 E cs1 ∧ (∀ i E' cs', Iv i E' cs' → ok cs') ∧
      (∀ i y E' cs', items[i]? = some y → Iv i E' cs' → Eg K C m E' y cs' g fun E2 cs2 => Ex K C m E2 cs2 t { D with nx := Cm m (Iv (i + 1)), ct := Cm m (Iv (i + 1)), bk := Cm n D.nx }) ∧ ∀ E' cs', Iv items.length E' cs' → D.nx E' cs') :
    Ex K C n E cs (tFor wi g t) D := fun F as H σ Dc hn w e d => by
  refine h F as H σ _ w e fun items ok cs1 F1 as1 H1 J ⟨hm, Iv, h0, hok, hstep, hend⟩ s1 w1 src => ?_
  have hn' : n ≤ as.length := by rw [w.len]; exact hn
  have s1n := s1.weak hn'
  have d1 := d.later s1n
  refine ⟨fun i mm σ H => i + mm = items.length ∧ ∃ E' cs' F' as', Iv i E' cs' ∧ Stp m F1 as1 H1 F' as' H ∧ Wd K C F' as' cs' H ∧ EnvR K C F' as' E' σ, ⟨items.length, by omega, E, cs1, F1, as1, h0, Stp.refl, w1, e.mono s1.f s1.pre⟩, ?_⟩
  rintro i mm σ H ⟨him, E', cs', F', as', hI, sI, wI, eI⟩
  cases mm with
  | zero =>
    have hi : i = items.length := by omega
    subst hi
    exact .inl ⟨src.stop F' as' cs' H (hok _ _ _ hI) sI wI, d1.nx E' cs' F' as' H σ (hend _ _ hI) (sI.weak hnm) wI eI⟩
  | succ mm =>
    obtain ⟨y, hy⟩ : ∃ y, items[i]? = some y := ⟨_, List.getElem?_eq_getElem (by omega)⟩
    obtain ⟨hgo, hy2⟩ := src.turn i y F' as' cs' H hy (hok _ _ _ hI) sI wI
    refine .inr ⟨hgo, fun σ' H' => (i + 1) + mm = items.length ∧ ∃ E' cs' F' as', Iv (i + 1) E' cs' ∧ Stp m F1 as1 H1 F' as' H' ∧ Wd K C F' as' cs' H' ∧ EnvR K C F' as' E' σ', fun σ' H' h => ⟨mm, by omega, h⟩, fun x H' hx => ?_⟩
    obtain ⟨F2, s2, w2, r2⟩ := hy2 x H' hx
    have hm' : m ≤ as'.length := sI.len (by rw [w1.len]; exact hm)
    have s2m := s2.weak hm'
    refine hstep i y E' cs' hy hI F2 as' H' σ x _ (by rw [← w2.len]; exact hm') w2 (eI.mono s2.f s2.pre) r2 fun E3 cs3 F3 as3 H3 σ3 h3 s3 w3 e3 => ?_
    have s03 := sI.trans (s2m.trans s3)
    refine h3 F3 as3 H3 σ3 _ (by rw [← w3.len]; exact s3.len hm') w3 e3 ⟨fun E4 cs4 F4 as4 H4 σ4 h4 s4 w4 e4 => ?_, fun x4 cs4 F4 as4 H4 v4 h4 s4 w4 r4 => d1.rt x4 cs4 F4 as4 H4 v4 h4 ((s03.trans s4).weak hnm) w4 r4, fun E4 cs4 F4 as4 H4 σ4 h4 s4 w4 e4 => ?_, fun E4 cs4 F4 as4 H4 σ4 h4 s4 w4 e4 => ?_, fun c4 p4 E4 cs4 F4 as4 H4 σ4 dd h4 s4 w4 e4 x4 => d1.ex c4 p4 E4 cs4 F4 as4 H4 σ4 dd h4 ((s03.trans s4).weak hnm) w4 e4 x4⟩
    · exact h4.run w4 e4 (s03.trans s4) fun E5 cs5 as5 p5 s5 w5 e5 => ⟨by omega, E5, cs5, F4, as5, p5, s5, w5, e5⟩
    · exact h4.run w4 e4 ((s03.trans s4).weak hnm) fun E5 cs5 as5 p5 s5 w5 e5 => d1.nx E5 cs5 F4 as5 H4 σ4 p5 s5 w5 e5
    · exact h4.run w4 e4 (s03.trans s4) fun E5 cs5 as5 p5 s5 w5 e5 => ⟨by omega, E5, cs5, F4, as5, p5, s5, w5, e5⟩
/-! ### comprehensions -/
theorem wipe_get {σ : St} {j : Nat} : ∀ vs : List Nat, (wipe σ vs)[j]? = if j ∈ vs then (σ[j]?).map (fun _ => none) else σ[j]?
  | [] => by rw [if_neg (by simp)]; rfl
  | v :: vs => by
    rw [wipe, List.getElem?_set, wipe_get vs, wipe_length]
    by_cases e : v = j
    · subst e
      rw [if_pos rfl, if_pos (List.mem_cons_self)]
      by_cases h : v < σ.length
      · rw [if_pos h, List.getElem?_eq_getElem h]; rfl
      · rw [if_neg h, List.getElem?_eq_none (Nat.le_of_not_lt h)]; rfl
    · rw [if_neg e]
      have : (j ∈ v :: vs) ↔ j ∈ vs := by simp [Ne.symm e]
      by_cases h : j ∈ vs
      · rw [if_pos h, if_pos (this.mpr h)]
      · rw [if_neg h, if_neg (fun z => h (this.mp z))]
theorem wipe_set {σ : St} {i : Nat} {x : Option V} {vs : List Nat} (h : i ∈ vs) : wipe (σ.set i x) vs = wipe σ vs := by
  refine List.ext_getElem? fun j => ?_
  rw [wipe_get, wipe_get, List.getElem?_set]
  by_cases e : i = j
  · subst e
    rw [if_pos h, if_pos h, if_pos rfl]
    by_cases h : i < σ.length
    · rw [if_pos h, List.getElem?_eq_getElem h]; rfl
    · rw [if_neg h, List.getElem?_eq_none (Nat.le_of_not_lt h)]
      first | done | rfl
  · rw [if_neg e]
theorem wipe_wipe {σ : St} {vs : List Nat} : wipe (wipe σ vs) vs = wipe σ vs := by
  refine List.ext_getElem? fun j => ?_
  rw [wipe_get, wipe_get]
  split
  · rw [Option.map_map]; rfl
  · rfl
def wipeE (E : AEnv) : List Nat → AEnv
  | [] => E
  | v :: vs => (wipeE E vs).set v none
theorem EnvR.setN {σ : St} {i : Nat} {x : Option V} (e : EnvR K C F as E σ) : EnvR K C F as (E.set i none) (σ.set i x) := by
  refine ⟨by rw [List.length_set, List.length_set, e.len], fun j y hj => ?_⟩
  rw [List.getElem?_set] at hj
  by_cases c : i = j
  · rw [if_pos c] at hj
    split at hj <;> cases hj
  · rw [if_neg c] at hj
    rw [List.getElem?_set, if_neg c]
    exact e.get j y hj
theorem EnvR.wipe {σ : St} (e : EnvR K C F as E σ) : ∀ vs, EnvR K C F as (wipeE E vs) (wipe σ vs)
  | [] => e
  | v :: vs => (EnvR.wipe e vs).setN
/-- a comprehension's target -/
def EgC (K : PySem.W.Frag) (C : Addr) (vs : List Nat) (E : AEnv) (y : AV) (cs : List Cell) (g : TG) (kg : AEnv → List Cell → Prop) : Prop :=
  ∀ F as H σ0 σ v (Q : St → Hp → Prop), Wd K C F as cs H → EnvR K C F as E σ → AR K C F as y v → L2.wipe σ vs = σ0 → (∀ E' σ', kg E' cs → EnvR K C F as E' σ' → L2.wipe σ' vs = σ0 → Q σ' H) → g v σ H Q
def EgsC (K : PySem.W.Frag) (C : Addr) (vs : List Nat) (E : AEnv) (ys : List AV) (cs : List Cell) (g : TGs) (kg : AEnv → List Cell → Prop) : Prop :=
  ∀ F as H σ0 σ v (Q : St → Hp → Prop), Wd K C F as cs H → EnvR K C F as E σ → ARs K C F as ys v → L2.wipe σ vs = σ0 → (∀ E' σ', kg E' cs → EnvR K C F as E' σ' → L2.wipe σ' vs = σ0 → Q σ' H) → g v σ H Q
variable {vs : List Nat}
theorem egc_name {i : Nat} {y : AV} (hi : i ∈ vs) (h : kg (E.set i (some y)) cs) : EgC K C vs E y cs (gName i) kg := fun F as H σ0 σ v Q w e r hw q => q _ _ h (e.set r) (by rw [wipe_set hi]; exact hw)
theorem egsc_nil (h : kg E cs) : EgsC K C vs E [] cs gNil kg := fun F as H σ0 σ v Q w e r hw q => by cases r; exact ⟨rfl, q E σ h e hw⟩
theorem egsc_cons {i : Nat} {gr : TGs} {y : AV} {ys : List AV} (hi : i ∈ vs) (h : EgsC K C vs (E.set i (some y)) ys cs gr kg) : EgsC K C vs E (y :: ys) cs (gCons (gName i) gr) kg := fun F as H σ0 σ v Q w e r hw q => by
  cases r with | cons r1 r2 => exact ⟨_, _, rfl, h F as H σ0 _ _ Q w (e.set r1) r2 (by rw [wipe_set hi]; exact hw) q⟩
theorem egc_tupD {l : Nat} {gs : TGs} {ds : List PyData} (hl : ds.length = l) (h : EgsC K C vs E (ds.map AV.d) cs gs kg) : EgC K C vs E (.d (.tuple ds)) cs (gTup K l gs) kg := fun F as H σ0 σ v Q w e r hw q => by
  cases r with | d r =>
  obtain ⟨a, xs, rfl, h1, h2⟩ := r.tup_inv
  exact ⟨a, xs, rfl, w.fro.sqT h1, by rw [h2.length]; exact hl, h F as H σ0 σ xs Q w e (ARs.data h2) hw q⟩
theorem egc_tup {l : Nat} {gs : TGs} {ys : List AV} (hl : ys.length = l) (h : EgsC K C vs E ys cs gs kg) : EgC K C vs E (.tup ys) cs (gTup K l gs) kg := fun F as H σ0 σ v Q w e r hw q => by
  cases r with | tup h1 h2 => exact ⟨_, _, rfl, w.fro.sqT h1, by rw [← h2.length]; exact hl, h F as H σ0 σ _ Q w e h2 hw q⟩
theorem Wd.out (w : Wd K C F as cs H) {p : Addr} {o : HO} (hA : ¬ inA as p) (hF : F p = none) (ho : NoTup o) : Wd K C F as cs (upd H p o) := by
  have nb : ∀ {i own}, as[i]? = some own → ∀ b ∈ own, b ≠ p := fun hi b hb z => hA ⟨_, _, hi, z ▸ hb⟩
  refine ⟨fun b u h => ?_, fun i own hi b hb => ?_, w.sep, w.nd, w.len, fun i own c hi hc => (w.ok i own c hi hc).mono (Same.refl F) Pre.refl fun b hb o h => by rw [upd_ne (nb hi b hb)]; exact h, fun i own hi b hb u h => ?_, fun b u h n => ?_⟩
  · have nz : b ≠ p := fun z => by rw [z, hF] at h; cases h
    rw [upd_ne nz]; exact w.fro b u h
  · rw [upd_ne (nb hi b hb)]; exact w.dis i own hi b hb
  · rw [upd_ne (nb hi b hb)] at h; exact w.mu i own hi b hb u h
  · by_cases e : b = p
    · subst e; rw [upd_same] at h; cases h; exact absurd ho n
    · rw [upd_ne e] at h; exact w.tp b u h n
/-- an outer list becomes a cell -/
theorem Wd.adopt (w : Wd K C F as cs H) {p : Addr} {o : HO} {c : Cell} (hA : ¬ inA as p) (hF : F p = none) (hp : H p = some o) (ho : NoTup o) (hc : CellOk K C F (as ++ [[p]]) H [p] c) : Wd K C F (as ++ [[p]]) (cs ++ [c]) H := by
  have nb : ∀ {i own}, as[i]? = some own → ∀ b ∈ own, b ≠ p := fun hi b hb z => hA ⟨_, _, hi, z ▸ hb⟩
  refine ⟨w.fro, fun i own hi b hb => ?_, fun i j own own' hi hj hij b hb => ?_, fun i own hi => ?_, by simp [w.len], fun i own c' hi hc' => ?_, fun i own hi b hb u h => ?_, w.tp⟩
  · rcases get_snoc hi with hi | ⟨rfl, rfl⟩
    · exact w.dis i own hi b hb
    · rw [List.mem_singleton.mp hb, hp]; exact ⟨hF, by simp⟩
  · rcases get_snoc hi with hi | ⟨rfl, rfl⟩ <;> rcases get_snoc hj with hj | ⟨rfl, rfl⟩
    · exact w.sep i j own own' hi hj hij b hb
    · intro z; exact nb hi b hb (List.mem_singleton.mp z)
    · rw [List.mem_singleton.mp hb]; intro z; exact nb hj p z rfl
    · exact absurd rfl hij
  · rcases get_snoc hi with hi | ⟨rfl, rfl⟩
    · exact w.nd i own hi
    · simp
  · rcases get_snoc hi with hi | ⟨rfl, rfl⟩
    · rw [List.getElem?_append_left (by rw [← w.len]; exact (List.getElem?_eq_some_iff.mp hi).1)] at hc'
      exact (w.ok i own c' hi hc').mono (Same.refl F) Pre.snoc fun b _ o h => h
    · rw [w.len] at hc'
      rcases get_snoc hc' with z | ⟨_, rfl⟩
      · rw [List.getElem?_eq_none (Nat.le_refl _)] at z; cases z
      · exact hc
  · rcases get_snoc hi with hi | ⟨rfl, rfl⟩
    · exact w.mu i own hi b hb u h
    · rw [List.mem_singleton.mp hb, hp] at h; cases h; exact ho
theorem nonF {n : Nat} {L : Addr} {o : HO} (t : Stp n F as H F' as' H') (nF : F L = none) (hx : H L = some o) : F' L = none := by
  cases e : F' L with
  | none => rfl
  | some u =>
    rcases t.nf L u e with q | q
    · rw [nF] at q; cases q
    · rw [hx] at q; cases q
/-- [e for g in wi if tt]: the items are data -/
theorem ev_lc {k : AV → List Cell → Prop} {wi : TI} {g : TG} {tt : TT} (m : Nat) (h : Evi K C m E cs wi fun items ok cs1 => m = cs1.length ∧ items.length ≤ 99999 ∧ ∃ Iv : Nat → List PyData → List Cell → Prop, Iv 0 [] cs1 ∧ (∀ i acc cs', Iv i acc cs' → ok cs') ∧
      (∀ i y acc cs', items[i]? = some y → Iv i acc cs' → EgC K C vs (wipeE E vs) y cs' g fun E2 cs2 => Evt K C E2 cs2 tt fun b cs3 =>
        if b = true then Ev K C E2 cs3 te fun z cs4 => ∃ d, z = .d d ∧ Cl m (fun _ => Iv (i + 1) (acc ++ [d])) [] cs4 else Cl m (fun _ => Iv (i + 1) acc) [] cs3) ∧
      ∀ acc cs', Iv items.length acc cs' → k (.cel cs'.length) (cs' ++ [.l acc])) : Ev K C E cs (tLc wi g tt te vs) k := fun F as H σ Q w e z => by
  refine h F as H σ _ w e fun items ok cs1 F1 as1 H1 J ⟨hm, hlen, Iv, h0, hok, hstep, hend⟩ s1 w1 src => ?_
  subst hm
  intro L hL
  have hL1 : F1 L = none := w1.fro.free hL
  have hLA : ¬ inA as1 L := fun ⟨i, own, hi, hb⟩ => (w1.dis i own hi L hb).2 hL
  have e1 := (e.mono s1.f s1.pre).wipe vs
  have sL : Stp cs1.length F1 as1 H1 F1 as1 (upd H1 L (.lst [])) := ⟨Same.refl F1, fun i _ own h => ⟨[], by rw [List.append_nil]; exact h⟩, fun b o h _ => (Same.new hL) b o h, fun b h => (Wd.newF.updN0 h).2, fun b o h => .inl h, fun b h => .inl h⟩
  refine ⟨fun i mm H => i + mm = items.length ∧ ∃ acc xs cs' F' as', Iv i acc cs' ∧ acc.length ≤ i ∧ Stp cs1.length F1 as1 H1 F' as' H ∧ Wd K C F' as' cs' H ∧ ¬ inA as' L ∧ F' L = none ∧ H L = some (.lst xs) ∧ DpAll K F' xs acc,
    ⟨items.length, by omega, [], [], cs1, F1, as1, h0, Nat.le_refl 0, sL, w1.out hLA hL1 trivial, hLA, hL1, upd_same, .nil⟩, ?_⟩
  rintro i mm H ⟨him, acc, xs, cs', F', as', hI, hal, sI, wI, nA, nF, hx, hxs⟩
  cases mm with
  | zero =>
    have hi : i = items.length := by omega
    subst hi
    refine .inl ⟨src.stop F' as' cs' H (hok _ _ _ hI) sI wI, ?_⟩
    have w2 := wI.adopt nA nF hx trivial (c := .l acc) (.l hx hxs)
    refine z _ _ _ F' _ H (hend acc cs' hI) ?_ w2 (.cel (r := []) ?_)
    · have sI' : Stp as1.length F1 as1 H1 F' as' H := sI.weak (by rw [w1.len]; exact Nat.le_refl _)
      have t := s1.tr sI'
      refine ⟨t.f, fun i hi own ho => ?_, t.fr, t.dm, t.nf, fun b ⟨i, own, hi, hb⟩ => ?_⟩
      · obtain ⟨r, hr⟩ := t.a i hi own ho
        exact ⟨r, by rw [List.getElem?_append_left (List.getElem?_eq_some_iff.mp hr).1]; exact hr⟩
      · rcases get_snoc hi with hi | ⟨rfl, rfl⟩
        · exact t.na b ⟨i, own, hi, hb⟩
        · rw [List.mem_singleton.mp hb]; exact .inr (s1.dm L hL)
    · rw [← wI.len, List.getElem?_append_right (Nat.le_refl _)]; simp
  | succ mm =>
    obtain ⟨y, hy⟩ : ∃ y, items[i]? = some y := ⟨_, List.getElem?_eq_getElem (by omega)⟩
    obtain ⟨hgo, hy2⟩ := src.turn i y F' as' cs' H hy (hok _ _ _ hI) sI wI
    refine .inr ⟨hgo, fun H' => (i + 1) + mm = items.length ∧ ∃ acc xs cs' F' as', Iv (i + 1) acc cs' ∧ acc.length ≤ i + 1 ∧ Stp cs1.length F1 as1 H1 F' as' H' ∧ Wd K C F' as' cs' H' ∧ ¬ inA as' L ∧ F' L = none ∧ H' L = some (.lst xs) ∧ DpAll K F' xs acc, fun H' h => ⟨mm, by omega, h⟩, fun x H2 hx2 => ?_⟩
    obtain ⟨F2, s2, w2, r2⟩ := hy2 x H2 hx2
    have hmI : cs1.length ≤ as'.length := sI.len (by rw [w1.len]; exact Nat.le_refl _)
    -- the outer list through a step
    have keepL : ∀ {F3 as3 H3}, Stp as'.length F' as' H F3 as3 H3 → ¬ inA as3 L ∧ F3 L = none ∧ H3 L = some (.lst xs) := fun {F3 as3 H3} t =>
      ⟨fun q => (t.na L q).elim nA fun q => by (rw [hx] at q; cases q), nonF t nF hx, t.fr L _ hx nA⟩
    have eI : EnvR K C F2 as' (wipeE E vs) (wipe σ vs) := ⟨e1.len, fun i x h => by
      obtain ⟨v, g1, g2⟩ := e1.get i x h
      refine ⟨v, g1, (g2.mono sI.f ?_).mono s2.f s2.pre⟩
      intro i own ho
      exact sI.a i (by rw [← w1.len]; exact (List.getElem?_eq_some_iff.mp ho).1) own ho⟩
    refine hstep i y acc cs' hy hI F2 as' H2 _ _ x _ w2 eI r2 wipe_wipe fun E3 σ3 h3 e3 hw3 => ⟨hw3, ?_⟩
    refine h3 F2 as' H2 σ3 _ w2 e3 fun b cs3 F3 as3 H3 h4 s3 w3 => ?_
    have s13 := s2.tr s3
    cases b with
    | false =>
      obtain ⟨ms, j, _, hj, _, hc, hp⟩ := h4
      obtain ⟨q1, q2, q3⟩ := keepL s13
      refine ⟨by omega, acc, xs, cs3.take j, F3, as3.take j, hp, by omega, ((sI.trans (s13.weak hmI)).cut hj), w3.cut (fun c hc' => ltC_get hc hc'), fun ⟨i, own, hi, hb⟩ => q1 ⟨i, own, (get_take hi).1, hb⟩, q2, q3, (s13.f).dpAll hxs⟩
    | true =>
      refine h4 F3 as3 H3 σ3 _ w3 (e3.mono s3.f s3.pre) fun zv cs4 v F4 as4 H4 ⟨dd, hz, h5⟩ s4 w4 r4 => ?_
      subst hz
      cases r4 with | d r4 =>
      have s14 := s13.tr s4
      obtain ⟨q1, q2, q3⟩ := keepL s14
      have hxl := hxs.length
      obtain ⟨ms, j, _, hj, _, hc, hp⟩ := h5
      have w5 := w4.cut (n := j) (fun c hc' => ltC_get hc hc')
      have q1' : ¬ inA (as4.take j) L := fun ⟨i, own, hi, hb⟩ => q1 ⟨i, own, (get_take hi).1, hb⟩
      refine ⟨xs, q3, line_lt (by omega), by omega, acc ++ [dd], _, cs4.take j, F4, as4.take j, hp, by rw [List.length_append]; simp; omega, ?_, w5.out q1' q2 trivial, q1', q2, upd_same, (s14.f.dpAll hxs).snoc r4⟩
      have t := (sI.trans (s14.weak hmI)).cut hj
      exact ⟨t.f, t.a, fun b o h n => by
        have nz : b ≠ L := fun q => by rw [q, hL] at h; cases h
        rw [upd_ne nz]; exact t.fr b o h n, fun b h => t.dm b (Wd.newF.updN0 h).2, t.nf, t.na⟩
end
end Y

/-! # Pure states: calls -/
namespace Y
open PySem L2
def rho (is : List Nat) (N : Nat) (j : Nat) : Nat := match is[j]? with
  | some i => i
  | none => N + (j - is.length)
def putC {α : Type} : List α → List Nat → List α → List α
  | xs, [], ys => xs ++ ys
  | xs, i :: is, y :: ys => putC (xs.set i y) is ys
  | xs, _ :: _, [] => xs
theorem putC_len {α : Type} : ∀ {is : List Nat} {xs ys : List α}, is.length ≤ ys.length → (putC xs is ys).length = xs.length + (ys.length - is.length)
  | [], xs, ys, _ => by simp [putC]
  | i :: is, xs, y :: ys, h => by
    rw [putC, putC_len (by simpa using h)]; simp
  | i :: is, xs, [], h => by simp at h
theorem putC_off {α : Type} : ∀ {is : List Nat} {xs ys : List α} {i : Nat}, is.length ≤ ys.length → i ∉ is → i < xs.length → (putC xs is ys)[i]? = xs[i]?
  | [], xs, ys, i, _, _, h => by rw [putC, List.getElem?_append_left h]
  | j :: is, xs, y :: ys, i, hl, hn, h => by
    rw [putC, putC_off (by simpa using hl) (fun z => hn (List.mem_cons_of_mem j z)) (by simpa using h), List.getElem?_set, if_neg (fun z => hn (by simp [z]))]
  | j :: is, xs, [], i, hl, _, _ => by simp at hl
theorem putC_at {α : Type} : ∀ {is : List Nat} {xs ys : List α} {i j : Nat}, is.length ≤ ys.length → is.Nodup → is[j]? = some i → (∀ i ∈ is, i < xs.length) → (putC xs is ys)[i]? = ys[j]?
  | i :: is, xs, y :: ys, _, 0, hl, hn, h, hb => by
    simp at h; subst h
    have h1 := List.nodup_cons.mp hn
    rw [putC, putC_off (by simpa using hl) h1.1 (by simpa using hb i (by simp)), List.getElem?_set, if_pos rfl, if_pos (hb i (by simp))]; rfl
  | i0 :: is, xs, y :: ys, i, j + 1, hl, hn, h, hb => by
    have h1 := List.nodup_cons.mp hn
    rw [putC, putC_at (j := j) (by simpa using hl) h1.2 (by simpa using h) (fun i hi => by simpa using hb i (List.mem_cons_of_mem i0 hi))]; rfl
  | i :: is, xs, [], _, _, hl, _, _, _ => by simp at hl
  | [], _, _, _, _, _, _, h, _ => by simp at h
theorem putC_new {α : Type} : ∀ {is : List Nat} {xs ys : List α} {t : Nat}, is.length ≤ ys.length → (putC xs is ys)[xs.length + t]? = ys[is.length + t]?
  | [], xs, ys, t, _ => by rw [putC, List.getElem?_append_right (by omega)]; congr 1; simp
  | i :: is, xs, y :: ys, t, hl => by
    have := putC_new (is := is) (xs := xs.set i y) (ys := ys) (t := t) (by simpa using hl)
    rw [List.length_set] at this
    rw [putC, this, List.length_cons, show is.length + 1 + t = (is.length + t) + 1 by omega, List.getElem?_cons_succ]
  | i :: is, xs, [], t, hl => by simp at hl
section
variable {K : PySem.W.Frag} {C : Addr} {F F' H H' : Hp} {as as' : Own} {cs cs' cs1 : List Cell} {E : AEnv} {tas : TA}
/-! ### contracts -/
abbrev ASp := List AV → List Cell → (AV → List Cell → Prop) → Prop
def spA (K : PySem.W.Frag) (C : Addr) (A : ASp) : Sp := fun vs H Q _ => ∃ F as cs xs k, Wd K C F as cs H ∧ ARs K C F as xs vs ∧ A xs cs k ∧
  ∀ r cs' v F' as' H', k r cs' → Stp as.length F as H F' as' H' → Wd K C F' as' cs' H' → AR K C F' as' r v → Q v H'
/-- a call: is are the cells that go along, zs the arguments and cz the cells in the callee's numbers -/
structure CallOk (is : List Nat) (zs : List AV) (cz : List Cell) (xs : List AV) (cs : List Cell) : Prop where
  nd : is.Nodup
  lt : ∀ i ∈ is, i < cs.length
  args : AV.renAll (rho is cs.length) zs = xs
  al : AV.ltAll is.length zs = true
  cells : is.map (fun i => cs[i]?) = cz.map (fun c => some (c.ren (rho is cs.length)))
  cl : ltC is.length cz = true
/-- a callee's world, and back -/
theorem call_back {is : List Nat} {zs xs : List AV} {cz : List Cell} {vs : List V} (ok : CallOk is zs cz xs cs) (w : Wd K C F as cs H) (r : ARs K C F as xs vs) :
    ∃ sel : Own, Wd K C F sel cz H ∧ ARs K C F sel zs vs ∧ ∀ (F' : Hp) (as' : Own) (H' : Hp) (cz' : List Cell), Stp sel.length F sel H F' as' H' → Wd K C F' as' cz' H' →
      ∃ asN : Own, Stp as.length F as H F' asN H' ∧ Wd K C F' asN (putC cs is (cz'.map (Cell.ren (rho is cs.length)))) H' ∧ ∀ (y : AV) (v : V), AR K C F' as' y v → AR K C F' asN (y.ren (rho is cs.length)) v := by
  have hlen : cz.length = is.length := by have := congrArg List.length ok.cells; simpa using this.symm
  have hlt : ∀ i ∈ is, i < as.length := fun i hi => by rw [w.len]; exact ok.lt i hi
  -- the callee's addresses
  obtain ⟨sel, hs⟩ : ∃ sel : Own, sel = is.map fun i => as.getD i [] := ⟨_, rfl⟩
  have hsl : sel.length = is.length := by rw [hs, List.length_map]
  have getD_eq : ∀ i, i < as.length → as[i]? = some (as.getD i []) := fun i hi => by rw [List.getD_eq_getElem?_getD, List.getElem?_eq_getElem hi]; rfl
  have hsel : ∀ (j : Nat) own, sel[j]? = some own → ∃ i, is[j]? = some i ∧ as[i]? = some own := fun j own h => by
    rw [hs, List.getElem?_map] at h
    obtain ⟨i, h1, h2⟩ := Option.map_eq_some_iff.mp h
    exact ⟨i, h1, by rw [getD_eq i (hlt i (List.mem_of_getElem? h1)), h2]⟩
  have rlo : ∀ {j i : Nat}, is[j]? = some i → rho is cs.length j = i := fun h => by unfold rho; rw [h]
  have rhi : ∀ {j : Nat}, is.length ≤ j → rho is cs.length j = cs.length + (j - is.length) := fun h => by unfold rho; rw [List.getElem?_eq_none h]
  have rsel : ∀ (j : Nat), j < is.length → as[rho is cs.length j]? = sel[j]? := fun j hj => by
    have e1 : is[j]? = some is[j] := List.getElem?_eq_getElem hj
    rw [rlo e1, getD_eq _ (hlt _ (List.getElem_mem hj)), hs, List.getElem?_map, e1]; rfl
  have inj : ∀ {j j' i : Nat}, is[j]? = some i → is[j']? = some i → j = j' := fun {j j' i} h1 h2 => by
    obtain ⟨b1, e1⟩ := List.getElem?_eq_some_iff.mp h1
    obtain ⟨b2, e2⟩ := List.getElem?_eq_some_iff.mp h2
    exact (List.getElem_inj (h₀ := b1) (h₁ := b2) ok.nd).mp (e1.trans e2.symm)
  have hwd : Wd K C F sel cz H := by
    refine ⟨w.fro, fun j own hj => ?_, fun j j' own own' hj hj' hne => ?_, fun j own hj => ?_, by rw [hsl, hlen], fun j own c hj hc => ?_, fun j own hj => ?_, w.tp⟩
    · obtain ⟨i, _, h2⟩ := hsel j own hj
      exact w.dis i own h2
    · obtain ⟨i, h1, h2⟩ := hsel j own hj
      obtain ⟨i', h1', h2'⟩ := hsel j' own' hj'
      exact w.sep i i' own own' h2 h2' fun z => hne (inj h1 (z ▸ h1'))
    · obtain ⟨i, _, h2⟩ := hsel j own hj
      exact w.nd i own h2
    · obtain ⟨i, h1, h2⟩ := hsel j own hj
      have hc2 : cs[i]? = some (c.ren (rho is cs.length)) := by
        have := congrArg (fun l => l[j]?) ok.cells
        simp only [List.getElem?_map, h1, hc, Option.map_some] at this
        exact Option.some.inj this
      exact CellOk.unren rsel (ltC_get ok.cl (List.mem_of_getElem? hc)) (w.ok i own _ h2 hc2)
    · obtain ⟨i, _, h2⟩ := hsel j own hj
      exact w.mu i own h2
  refine ⟨sel, hwd, ARs.unren rsel ok.al (by rw [ok.args]; exact r), fun F' as' H' cz' s w' => ?_⟩
  have hl' : is.length ≤ as'.length := by rw [← hsl]; exact s.pre.len
  have hlc : is.length ≤ (cz'.map (Cell.ren (rho is cs.length))).length := by rw [List.length_map, ← w'.len]; exact hl'
  -- the caller's addresses behind the call
  have gsel : ∀ {i j : Nat}, is[j]? = some i → (putC as is as')[i]? = as'[j]? := fun h => putC_at hl' ok.nd h hlt
  have goff : ∀ {i : Nat}, i ∉ is → i < as.length → (putC as is as')[i]? = as[i]? := fun h1 h2 => putC_off hl' h1 h2
  have gnew : ∀ {t : Nat}, (putC as is as')[as.length + t]? = as'[is.length + t]? := putC_new hl'
  have plen : (putC as is as').length = as.length + (as'.length - is.length) := putC_len hl'
  -- what stands at an index
  have cases_at : ∀ (i : Nat) own, (putC as is as')[i]? = some own → (i ∉ is ∧ as[i]? = some own) ∨ ∃ j, as'[j]? = some own ∧ rho is cs.length j = i := fun i own h => by
    by_cases hi : i < as.length
    · by_cases hm : i ∈ is
      · obtain ⟨j, hj⟩ := List.mem_iff_getElem?.mp hm
        rw [gsel hj] at h
        exact .inr ⟨j, h, rlo hj⟩
      · rw [goff hm hi] at h; exact .inl ⟨hm, h⟩
    · have e1 : i = as.length + (i - as.length) := by omega
      rw [e1, gnew] at h
      exact .inr ⟨_, h, by rw [rhi (by omega), ← w.len]; omega⟩
  have at_new : ∀ (j : Nat) own, as'[j]? = some own → (putC as is as')[rho is cs.length j]? = some own := fun j own h => by
    by_cases hj : j < is.length
    · have e1 : is[j]? = some is[j] := List.getElem?_eq_getElem hj
      rw [rlo e1, gsel e1]; exact h
    · rw [rhi (by omega), ← w.len, gnew, show is.length + (j - is.length) = j by omega]; exact h
  have cell_at : ∀ {j : Nat} {c : Cell}, (putC cs is (cz'.map (Cell.ren (rho is cs.length))))[rho is cs.length j]? = some c → ∃ c', cz'[j]? = some c' ∧ c = c'.ren (rho is cs.length) := fun {j c} h => by
    have e : (putC cs is (cz'.map (Cell.ren (rho is cs.length))))[rho is cs.length j]? = (cz'.map (Cell.ren (rho is cs.length)))[j]? := by
      by_cases hj : j < is.length
      · have e1 : is[j]? = some is[j] := List.getElem?_eq_getElem hj
        rw [rlo e1, putC_at hlc ok.nd e1 ok.lt]
      · rw [rhi (by omega), putC_new hlc, show is.length + (j - is.length) = j by omega]
    rw [e, List.getElem?_map] at h
    obtain ⟨c', h1, h2⟩ := Option.map_eq_some_iff.mp h
    exact ⟨c', h1, h2.symm⟩
  have rinj : ∀ {j j' : Nat}, rho is cs.length j = rho is cs.length j' → j = j' := fun {j j'} h => by
    by_cases hj : j < is.length <;> by_cases hj' : j' < is.length
    · have e1 : is[j]? = some is[j] := List.getElem?_eq_getElem hj
      have e2 : is[j']? = some is[j'] := List.getElem?_eq_getElem hj'
      rw [rlo e1, rlo e2] at h
      rw [h] at e1
      exact inj e1 e2
    · have e1 : is[j]? = some is[j] := List.getElem?_eq_getElem hj
      have := ok.lt _ (List.getElem_mem hj)
      rw [rlo e1, rhi (by omega)] at h; omega
    · have e1 : is[j']? = some is[j'] := List.getElem?_eq_getElem hj'
      have := ok.lt _ (List.getElem_mem hj')
      rw [rlo e1, rhi (by omega)] at h; omega
    · rw [rhi (by omega), rhi (by omega)] at h; omega
  have inSel : ∀ b, inA sel b → inA as b := fun b ⟨j, own, hj, hb⟩ => by
    obtain ⟨i, _, h2⟩ := hsel j own hj
    exact ⟨i, own, h2, hb⟩
  -- an address of a cell that did not go along
  have offSel : ∀ {i : Nat} {own : List Addr}, i ∉ is → as[i]? = some own → ∀ b ∈ own, ¬ inA sel b := fun hi ho b hb ⟨j, own', hj, hb'⟩ => by
    obtain ⟨i', h1, h2⟩ := hsel j own' hj
    exact w.sep _ i' _ own' ho h2 (fun z => hi (z ▸ List.mem_of_getElem? h1)) b hb hb'
  have offNew : ∀ {i : Nat} {own : List Addr}, i ∉ is → as[i]? = some own → ∀ b ∈ own, ¬ inA as' b := fun hi ho b hb z => (s.na b z).elim (offSel hi ho b hb) (w.dis _ _ ho b hb).2
  have offH : ∀ {i : Nat} {own : List Addr}, i ∉ is → as[i]? = some own → ∀ b ∈ own, ∃ o, H b = some o ∧ H' b = some o := fun hi ho b hb => by
    cases e : H b with
    | none => exact absurd e (w.dis _ _ ho b hb).2
    | some o => exact ⟨o, rfl, s.fr b o e (offSel hi ho b hb)⟩
  have pre : Pre as (putC as is as') := fun i own ho => by
    by_cases hm : i ∈ is
    · obtain ⟨j, hj⟩ := List.mem_iff_getElem?.mp hm
      have hj' : sel[j]? = some own := by rw [← rsel j (List.getElem?_eq_some_iff.mp hj).1, rlo hj]; exact ho
      obtain ⟨t, ht⟩ := s.pre j own hj'
      exact ⟨t, by rw [gsel hj]; exact ht⟩
    · exact ⟨[], by rw [goff hm (List.getElem?_eq_some_iff.mp ho).1, List.append_nil]; exact ho⟩
  refine ⟨putC as is as', ⟨s.f, fun i _ own ho => pre i own ho, fun b o h n => s.fr b o h fun z => n (inSel b z), s.dm, s.nf, fun b ⟨i, own, hi, hb⟩ => ?_⟩,
    ⟨w'.fro, fun i own hi b hb => ?_, fun i i' own own' hi hi' hne b hb => ?_, fun i own hi => ?_, ?_, fun i own c hi hc => ?_, fun i own hi b hb o ho => ?_, w'.tp⟩, fun y v r' => r'.ren at_new⟩
  · rcases cases_at i own hi with ⟨_, h2⟩ | ⟨j, h2, _⟩
    · exact .inl ⟨i, own, h2, hb⟩
    · exact (s.na b ⟨j, own, h2, hb⟩).imp (inSel b) id
  · rcases cases_at i own hi with ⟨h1, h2⟩ | ⟨j, h2, _⟩
    · obtain ⟨o, e1, e2⟩ := offH h1 h2 b hb
      refine ⟨?_, by rw [e2]; simp⟩
      cases e : F' b with
      | none => rfl
      | some u =>
        rcases s.nf b u e with z | z
        · rw [(w.dis i own h2 b hb).1] at z; cases z
        · rw [e1] at z; cases z
    · exact w'.dis j own h2 b hb
  · rcases cases_at i own hi with ⟨h1, h2⟩ | ⟨j, h2, e⟩ <;> rcases cases_at i' own' hi' with ⟨h1', h2'⟩ | ⟨j', h2', e'⟩
    · exact w.sep i i' own own' h2 h2' hne b hb
    · exact fun z => offNew h1 h2 b hb ⟨j', own', h2', z⟩
    · exact fun z => offNew h1' h2' b z ⟨j, own, h2, hb⟩
    · exact w'.sep j j' own own' h2 h2' (fun z => hne (by rw [← e, ← e', z])) b hb
  · rcases cases_at i own hi with ⟨h1, h2⟩ | ⟨j, h2, _⟩
    · exact w.nd i own h2
    · exact w'.nd j own h2
  · rw [plen, putC_len hlc, List.length_map, w.len, w'.len]
  · rcases cases_at i own hi with ⟨h1, h2⟩ | ⟨j, h2, e⟩
    · have hi2 : i < cs.length := by rw [← w.len]; exact (List.getElem?_eq_some_iff.mp h2).1
      rw [putC_off hlc h1 hi2] at hc
      refine (w.ok i own c h2 hc).mono s.f pre fun b hb o ho => ?_
      obtain ⟨o', e1, e2⟩ := offH h1 h2 b hb
      rw [e1] at ho; cases ho; exact e2
    · subst e
      obtain ⟨c', h3, rfl⟩ := cell_at hc
      exact (w'.ok j own c' h2 h3).ren at_new
  · rcases cases_at i own hi with ⟨h1, h2⟩ | ⟨j, h2, _⟩
    · obtain ⟨o', e1, e2⟩ := offH h1 h2 b hb
      rw [e2] at ho; cases ho
      exact w.mu i own h2 b hb _ e1
    · exact w'.mu j own h2 b hb o ho
theorem call_core {A : ASp} {is : List Nat} {zs xs : List AV} {cz : List Cell} {k : AV → List Cell → Prop} {vs : List V} {Q : VK} (ok : CallOk is zs cz xs cs) (w : Wd K C F as cs H) (r : ARs K C F as xs vs)
    (hA : A zs cz fun y cz' => k (y.ren (rho is cs.length)) (putC cs is (cz'.map (Cell.ren (rho is cs.length))))) (q : Kt K C F as H k Q) {X : XK} : spA K C A vs H Q X := by
  obtain ⟨sel, hwd, hr, back⟩ := call_back ok w r
  refine ⟨F, sel, cz, zs, _, hwd, hr, hA, fun y cz' v F' as' H' hk s w' r' => ?_⟩
  obtain ⟨asN, s1, w1, a1⟩ := back F' as' H' cz' s w'
  exact q _ _ v F' asN H' hk s1 w1 (a1 y v r')
theorem ev_call {A : ASp} {k : AV → List Cell → Prop} {X : XK} (h : Evs K C E cs tas fun xs cs1 => ∃ is zs cz, CallOk is zs cz xs cs1 ∧ A zs cz fun y cz' => k (y.ren (rho is cs1.length)) (putC cs1 is (cz'.map (Cell.ren (rho is cs1.length))))) :
    Ev K C E cs (tCall (spA K C A) [] X tas) k := fun F as H σ Q w e z => by
  refine h F as H σ _ w e fun xs cs1 vs F1 as1 H1 ⟨is, zs, cz, ok, hA⟩ s1 w1 r1 => ?_
  show spA K C A (vs ++ []) H1 Q X
  rw [List.append_nil]
  exact call_core ok w1 r1 hA (Kt.later z s1)
/-- a call with data alone -/
theorem ev_callD {A : ASp} {k : AV → List Cell → Prop} {X : XK} (h : Evs K C E cs tas fun xs cs1 => ∃ ds, unD xs = some ds ∧ A (ds.map AV.d) [] fun y cz' => k (y.ren (rho [] cs1.length)) (putC cs1 [] (cz'.map (Cell.ren (rho [] cs1.length))))) :
    Ev K C E cs (tCall (spA K C A) [] X tas) k := ev_call fun F as H σ Q w e z => h F as H σ Q w e fun xs cs1 v F' as' H' ⟨ds, hd, hA⟩ => z xs cs1 v F' as' H' ⟨[], ds.map AV.d, [], ⟨List.nodup_nil, fun i hi => absurd hi (List.not_mem_nil), by
    rw [unD_eq hd, renAll_map, List.map_map]; rfl, by
    clear hA hd
    induction ds with
    | nil => rfl
    | cons d ds ih => simpa [AV.ltAll, AV.lt] using ih, rfl, rfl⟩, hA⟩
/-! ### a body -/
def startE (N : List Str) (xs : List AV) : AEnv := xs.map some ++ List.replicate (N.length - xs.length) none
theorem EnvR.start {N : List Str} {xs : List AV} {vs : List V} (r : ARs K C F as xs vs) : EnvR K C F as (startE N xs) (L2.start N vs) := by
  have hl := r.length
  refine ⟨by simp [startE, L2.start, hl], fun i x h => ?_⟩
  unfold startE at h
  by_cases hi : i < xs.length
  · rw [List.getElem?_append_left (by simpa using hi), List.getElem?_map] at h
    obtain ⟨y, h1, h2⟩ := Option.map_eq_some_iff.mp h
    cases h2
    obtain ⟨v, h3, h4⟩ := r.get h1
    exact ⟨v, by unfold L2.start; rw [List.getElem?_append_left (by rw [List.length_map, ← hl]; exact hi), List.getElem?_map, h3]; rfl, h4⟩
  · rw [List.getElem?_append_right (by simpa using hi)] at h
    rw [List.getElem?_replicate] at h
    split at h <;> cases h
theorem body_ok {N : List Str} {xs : List AV} {vs : List V} {t : TS} {k : AV → List Cell → Prop} {Q : VK} (w : Wd K C F as cs H) (r : ARs K C F as xs vs) (hx : Ex K C cs.length (startE N xs) cs t { nx := fun _ cs' => k (.d .none) cs', rt := k })
    (q : ∀ r cs' v F' as' H', k r cs' → Stp as.length F as H F' as' H' → Wd K C F' as' cs' H' → AR K C F' as' r v → Q v H') : t { nx := fun _ H' => Q .non H', rt := Q } (L2.start N vs) H := by
  refine hx F as H _ _ (Nat.le_refl _) w (EnvR.start r) ⟨fun E' cs' F' as' H' σ h s w' _ => q _ cs' _ F' as' H' h (s.weak (by rw [w.len]; exact Nat.le_refl _)) w' (.d .non), fun x cs' F' as' H' v h s w' r' => q x cs' v F' as' H' h (s.weak (by rw [w.len]; exact Nat.le_refl _)) w' r', fun _ _ _ _ _ _ h => h.elim, fun _ _ _ _ _ _ h => h.elim, fun _ _ _ _ _ _ _ _ _ h => h.elim⟩
theorem spA_len {A : ASp} {l : Nat} (h : ∀ xs cs k, A xs cs k → xs.length = l) {vs : List V} {H : Hp} {Q : VK} {X : XK} (g : spA K C A vs H Q X) : vs.length = l := by
  obtain ⟨F, as, cs, xs, k, _, r, hA, _⟩ := g
  rw [← r.length]; exact h _ _ _ hA
end
end Y

/-! # Pure states: operations -/
namespace Y
open PySem L2
section
variable {K : PySem.W.Frag} {C : Addr} {F F' H H' : Hp} {as as' : Own} {cs cs' cs1 : List Cell} {E : AEnv} {k : AV → List Cell → Prop} {ta tb te tc : TE} {tas tar : TA} {x y : AV}
/-! ### views -/
def lstOf (x : AV) (cs : List Cell) : Option (List PyData) := match x with
  | .d (.list ds) => some ds
  | .cel i => match cs[i]? with
    | some (.l ds) => some ds
    | _ => none
  | .sub i j => match cs[i]? with
    | some (.g _ rows) => rows[j]?
    | some (.m _ _ rows) => rows[j]?
    | _ => none
  | _ => none
def tupOf (x : AV) : Option (List PyData) := match x with
  | .d (.tuple ds) => some ds
  | _ => none
def datOf (x : AV) (cs : List Cell) : Option PyData := match x with
  | .d d => some d
  | .cel i => match cs[i]? with
    | some (.l ds) => some (.list ds)
    | _ => none
  | _ => none
theorem lstOf_at {ds : List PyData} {v : V} (h : lstOf x cs = some ds) (w : Wd K C F as cs H) (r : AR K C F as x v) : ∃ p xs, v = .ref p ∧ SqL K H p xs ∧ DpAll K F xs ds := by
  cases x with
  | d d =>
    cases r with | d r =>
    cases d with
    | list es =>
      simp [lstOf] at h; subst h
      obtain ⟨p, xs, rfl, h1, h2⟩ := r.lst_inv
      exact ⟨p, xs, rfl, h1.same w.fro, h2⟩
    | _ => simp [lstOf] at h
  | cel i =>
    cases r with | cel hp =>
    simp only [lstOf] at h
    cases e : cs[i]? with
    | none => rw [e] at h; cases h
    | some c =>
      rw [e] at h
      cases c with
      | l es =>
        simp at h; subst h
        obtain ⟨_, vs, h1, h2⟩ := w.lst hp e
        exact ⟨_, vs, rfl, SqL.of h1, h2⟩
      | _ => simp at h
  | sub i j =>
    cases r with | @sub _ _ q own hi hj =>
    simp only [lstOf] at h
    cases e : cs[i]? with
    | none => rw [e] at h; cases h
    | some c =>
      rw [e] at h
      have hc := w.ok i _ _ hi e
      cases hc with
      | g h1 h2 h3 =>
        obtain ⟨vs, g1, g2⟩ := h3.get (by simpa using hj) h
        exact ⟨_, vs, rfl, SqL.of g1, g2⟩
      | m h1 h2 h3 =>
        obtain ⟨vs, g1, g2⟩ := h3.get (by simpa using hj) h
        exact ⟨_, vs, rfl, SqL.of g1, g2⟩
      | _ => simp at h
  | _ => simp [lstOf] at h
theorem tupOf_at {ds : List PyData} {v : V} (h : tupOf x = some ds) (w : Wd K C F as cs H) (r : AR K C F as x v) : ∃ p xs, v = .ref p ∧ SqT K H p xs ∧ DpAll K F xs ds ∧ Dp K F v (.tuple ds) := by
  cases x with
  | d d =>
    cases r with | d r =>
    cases d with
    | tuple es =>
      simp [tupOf] at h; subst h
      obtain ⟨p, xs, rfl, h1, h2⟩ := r.tup_inv
      exact ⟨p, xs, rfl, w.fro.sqT h1, h2, r⟩
    | _ => simp [tupOf] at h
  | _ => simp [tupOf] at h
theorem datOf_at {d : PyData} {v : V} (h : datOf x cs = some d) (w : Wd K C F as cs H) (r : AR K C F as x v) : Dp K H v d := by
  cases x with
  | d e => simp [datOf] at h; subst h; cases r with | d r => exact w.fro.dp r
  | cel i =>
    cases r with | cel hp =>
    simp only [datOf] at h
    cases e : cs[i]? with
    | none => rw [e] at h; cases h
    | some c =>
      rw [e] at h
      cases c with
      | l es =>
        simp at h; subst h
        obtain ⟨_, vs, h1, h2⟩ := w.lst hp e
        exact .lstOf h1 (w.fro.dpAll h2)
      | _ => simp at h
  | _ => simp [datOf] at h
theorem AR.int {i : Int} {v : V} (r : AR K C F as (.d (.int i)) v) : v = .int i := by cases r with | d r => exact r.int_inv
theorem AR.str {i : Str} {v : V} (r : AR K C F as (.d (.str i)) v) : v = .str i := by cases r with | d r => exact r.str_inv
/-! ### two places -/
theorem o_int {f : Int → Int → Int} {i j : Int} (h : k (.d (.int (f i j))) cs) : O2 K C (rI0 fun i j => .int (f i j)) (.d (.int i)) (.d (.int j)) cs k := fun F as H v u Q w r1 r2 q => ⟨i, j, r1.int, r2.int, q.now h w (.d (.int _))⟩
theorem o_bl {f : Int → Int → Bool} {i j : Int} (h : k (.d (.bool (f i j))) cs) : O2 K C (rI0 fun i j => .bl (f i j)) (.d (.int i)) (.d (.int j)) cs k := fun F as H v u Q w r1 r2 q => ⟨i, j, r1.int, r2.int, q.now h w (.d (.bl _))⟩
theorem o_intC {P : Int → Int → Prop} {f : Int → Int → Int} {i j : Int} (hc : P i j) (h : k (.d (.int (f i j))) cs) : O2 K C (rI P fun i j => .int (f i j)) (.d (.int i)) (.d (.int j)) cs k := fun F as H v u Q w r1 r2 q => ⟨i, j, r1.int, r2.int, hc, q.now h w (.d (.int _))⟩
def scV : PyData → Option V
  | .int i => some (.int i)
  | .str s => some (.str s)
  | .bool b => some (.bl b)
  | .none => some .non
  | _ => none
theorem scV_at {d : PyData} {u v : V} (h : scV d = some u) (r : AR K C F as (.d d) v) : v = u := by
  cases r with | d r =>
  cases r <;> simp [scV] at h <;> exact h
theorem o_eq {a b : PyData} {u1 u2 : V} (h1 : scV a = some u1) (h2 : scV b = some u2) (hs : scal u1 u2 = true) (h : k (.d (.bool (decide (u1 = u2)))) cs) : O2 K C rEq (.d a) (.d b) cs k := fun F as H v u Q w r1 r2 q => by
  rw [scV_at h1 r1, scV_at h2 r2]; exact ⟨hs, q.now h w (.d (.bl _))⟩
theorem o_ne {a b : PyData} {u1 u2 : V} (h1 : scV a = some u1) (h2 : scV b = some u2) (hs : scal u1 u2 = true) (h : k (.d (.bool (!decide (u1 = u2)))) cs) : O2 K C rNe (.d a) (.d b) cs k := fun F as H v u Q w r1 r2 q => by
  rw [scV_at h1 r1, scV_at h2 r2]; exact ⟨hs, q.now h w (.d (.bl _))⟩
theorem o_eqD {a b : PyData} (h1 : datOf x cs = some a) (h2 : datOf y cs = some b) (s1 : SeqAt.shaped a = true) (s2 : SeqAt.shaped b = true) (h : k (.d (.bool (PyData.eqv a b))) cs) : O2 K C (rEqD K) x y cs k := fun F as H v u Q w r1 r2 q =>
  ⟨a, b, datOf_at h1 w r1, datOf_at h2 w r2, s1, s2, q.now h w (.d (.bl _))⟩
theorem o_neD {a b : PyData} (h1 : datOf x cs = some a) (h2 : datOf y cs = some b) (s1 : SeqAt.shaped a = true) (s2 : SeqAt.shaped b = true) (h : k (.d (.bool (!PyData.eqv a b))) cs) : O2 K C (rNeD K) x y cs k := fun F as H v u Q w r1 r2 q =>
  ⟨a, b, datOf_at h1 w r1, datOf_at h2 w r2, s1, s2, q.now h w (.d (.bl _))⟩
theorem o_eqA1 {r : R2} (h : O2 K C rEq x y cs k) : O2 K C (rEqA K) x y cs k := fun F as H v u Q w r1 r2 q => .inl (h F as H v u Q w r1 r2 q)
theorem o_eqA2 (h : O2 K C (rEqD K) x y cs k) : O2 K C (rEqA K) x y cs k := fun F as H v u Q w r1 r2 q => .inr (h F as H v u Q w r1 r2 q)
theorem o_neA1 (h : O2 K C rNe x y cs k) : O2 K C (rNeA K) x y cs k := fun F as H v u Q w r1 r2 q => .inl (h F as H v u Q w r1 r2 q)
theorem o_neA2 (h : O2 K C (rNeD K) x y cs k) : O2 K C (rNeA K) x y cs k := fun F as H v u Q w r1 r2 q => .inr (h F as H v u Q w r1 r2 q)
def isNn : AV → Bool
  | .d .none => true
  | _ => false
theorem isNn_at {v : V} (r : AR K C F as x v) : decide (v = V.non) = isNn x := by
  cases r with
  | d r => cases r <;> simp [isNn]
  | _ => simp [isNn]
theorem o_isN (h : k (.d (.bool (isNn x))) cs) : O2 K C (fun x y H Q => y = .non ∧ Q (.bl (decide (x = .non))) H) x (.d .none) cs k := fun F as H v u Q w r1 r2 q => by
  refine ⟨by cases r2 with | d r2 => exact r2.non_inv, ?_⟩
  rw [isNn_at r1]
  exact q.now h w (.d (.bl _))
theorem o_notN (h : k (.d (.bool (!isNn x))) cs) : O2 K C (fun x y H Q => y = .non ∧ Q (.bl (!decide (x = .non))) H) x (.d .none) cs k := fun F as H v u Q w r1 r2 q => by
  refine ⟨by cases r2 with | d r2 => exact r2.non_inv, ?_⟩
  rw [isNn_at r1]
  exact q.now h w (.d (.bl _))
theorem atI_map {α β : Type} {f : α → β} {l : List α} {i : Int} : atI (l.map f) i = (atI l i).map f := by
  unfold atI
  rw [List.length_map]
  cases ixN l.length i with
  | none => rfl
  | some j => simp [List.getElem?_map]
theorem dp_at : ∀ {xs : List V} {ds : List PyData} {i : Int} {d : PyData}, DpAll K F xs ds → atI ds i = some d → ∃ v, atI xs i = some v ∧ Dp K F v d := fun {xs ds i d} h e => by
  unfold atI at e ⊢
  rw [h.length]
  cases hn : ixN ds.length i with
  | none => rw [hn] at e; cases e
  | some j =>
    rw [hn] at e
    exact h.get e
theorem ar_at {xs : List V} {ys : List AV} {i : Int} {y : AV} (h : ARs K C F as ys xs) (e : atI ys i = some y) : ∃ v, atI xs i = some v ∧ AR K C F as y v := by
  unfold atI at e ⊢
  rw [← h.length]
  cases hn : ixN ys.length i with
  | none => rw [hn] at e; cases e
  | some j =>
    rw [hn] at e
    exact h.get e
theorem o_ixL {ds : List PyData} {i : Int} {d : PyData} (h1 : lstOf x cs = some ds) (h2 : atI ds i = some d) (h : k (.d d) cs) : O2 K C (rIxL K) x (.d (.int i)) cs k := fun F as H v u Q w r1 r2 q => by
  obtain ⟨p, xs, rfl, h3, h4⟩ := lstOf_at h1 w r1
  obtain ⟨z, h5, h6⟩ := dp_at h4 h2
  exact ⟨p, xs, i, z, rfl, r2.int, h3, h5, q.now h w (.d h6)⟩
theorem o_ixA {ys : List AV} {i : Int} {j : Nat} {y : AV} (h1 : cs[j]? = some (.a ys)) (h2 : atI ys i = some y) (h : k y cs) : O2 K C (rIxL K) (.cel j) (.d (.int i)) cs k := fun F as H v u Q w r1 r2 q => by
  cases r1 with | cel hp =>
  obtain ⟨_, vs, h3, h4⟩ := w.lsa hp h1
  obtain ⟨z, h5, h6⟩ := ar_at h4 h2
  exact ⟨_, vs, i, z, rfl, r2.int, SqL.of h3, h5, q.now h w h6⟩
theorem o_ixT {ds : List PyData} {i : Int} {d : PyData} (h1 : tupOf x = some ds) (h2 : atI ds i = some d) (h : k (.d d) cs) : O2 K C (rIxT K) x (.d (.int i)) cs k := fun F as H v u Q w r1 r2 q => by
  obtain ⟨p, xs, rfl, h3, h4, _⟩ := tupOf_at h1 w r1
  obtain ⟨z, h5, h6⟩ := dp_at h4 h2
  exact ⟨p, xs, i, z, rfl, r2.int, h3, h5, q.now h w (.d h6)⟩
theorem o_ixTA {ys : List AV} {i : Int} {y : AV} (h2 : atI ys i = some y) (h : k y cs) : O2 K C (rIxT K) (.tup ys) (.d (.int i)) cs k := fun F as H v u Q w r1 r2 q => by
  cases r1 with | tup h3 h4 =>
  obtain ⟨z, h5, h6⟩ := ar_at h4 h2
  exact ⟨_, _, i, z, rfl, r2.int, w.fro.sqT h3, h5, q.now h w h6⟩
theorem o_ix1 (h : O2 K C (rIxL K) x y cs k) : O2 K C (rIx K) x y cs k := fun F as H v u Q w r1 r2 q => .inl (h F as H v u Q w r1 r2 q)
theorem o_ix2 (h : O2 K C (rIxT K) x y cs k) : O2 K C (rIx K) x y cs k := fun F as H v u Q w r1 r2 q => .inr (.inl (h F as H v u Q w r1 r2 q))
theorem o_inT {d : PyData} {ds : List PyData} (h1 : datOf x cs = some d) (h2 : tupOf y = some ds) (s1 : SeqAt.shaped d = true) (s2 : SeqAt.shaped (.tuple ds) = true) (h : k (.d (.bool (ds.any fun z => PyData.eqv z d))) cs) : O2 K C (rInTD K) x y cs k := fun F as H v u Q w r1 r2 q => by
  obtain ⟨p, xs, rfl, _, _, h4⟩ := tupOf_at h2 w r2
  exact ⟨d, ds, datOf_at h1 w r1, w.fro.dp h4, s1, s2, q.now h w (.d (.bl _))⟩
theorem o_notInT {d : PyData} {ds : List PyData} (h1 : datOf x cs = some d) (h2 : tupOf y = some ds) (s1 : SeqAt.shaped d = true) (s2 : SeqAt.shaped (.tuple ds) = true) (h : k (.d (.bool (!ds.any fun z => PyData.eqv z d))) cs) : O2 K C (rNotInTD K) x y cs k := fun F as H v u Q w r1 r2 q => by
  obtain ⟨p, xs, rfl, _, _, h4⟩ := tupOf_at h2 w r2
  exact ⟨d, ds, datOf_at h1 w r1, w.fro.dp h4, s1, s2, q.now h w (.d (.bl _))⟩
theorem o_inL {d : PyData} {ds : List PyData} (h1 : datOf x cs = some d) (h2 : lstOf y cs = some ds) (s1 : SeqAt.shaped d = true) (s2 : SeqAt.shaped (.list ds) = true) (h : k (.d (.bool (ds.any fun z => PyData.eqv z d))) cs) : O2 K C (rInD K) x y cs k := fun F as H v u Q w r1 r2 q => by
  obtain ⟨p, xs, rfl, h3, h4⟩ := lstOf_at h2 w r2
  exact ⟨d, ds, datOf_at h1 w r1, .lst h3 (w.fro.dpAll h4), s1, s2, q.now h w (.d (.bl _))⟩
theorem o_notInL {d : PyData} {ds : List PyData} (h1 : datOf x cs = some d) (h2 : lstOf y cs = some ds) (s1 : SeqAt.shaped d = true) (s2 : SeqAt.shaped (.list ds) = true) (h : k (.d (.bool (!ds.any fun z => PyData.eqv z d))) cs) : O2 K C (rNotInD K) x y cs k := fun F as H v u Q w r1 r2 q => by
  obtain ⟨p, xs, rfl, h3, h4⟩ := lstOf_at h2 w r2
  exact ⟨d, ds, datOf_at h1 w r1, .lst h3 (w.fro.dpAll h4), s1, s2, q.now h w (.d (.bl _))⟩
/-- what a call finds behind it, where all that is new is frozen -/
theorem Kt.same {Q : VK} (q : Kt K C F as H k Q) (w : Wd K C F as cs H) (s : Same H H') {z : AV} {v : V} (h : k z cs) (r : AR K C (absF F H H') as z v) : Q v H' := by
  obtain ⟨w1, s1⟩ := w.same s
  exact q z cs v _ as H' h s1 w1 r
theorem o_catA {ds es : List PyData} (h1 : tupOf x = some ds) (h2 : tupOf y = some es) (hl : ds.length + es.length ≤ 100000) (h : k (.d (.tuple (ds ++ es))) cs) : O2 K C (rCatA K) x y cs k := fun F as H v u Q w r1 r2 q => by
  obtain ⟨p, xs, rfl, h3, h4, h5⟩ := tupOf_at h1 w r1
  obtain ⟨p', xs', rfl, h3', h4', h5'⟩ := tupOf_at h2 w r2
  refine ⟨p, p', xs, xs', rfl, rfl, h3, h3', line_of (by rw [h4.length, h4'.length]; exact hl), fun e => ?_, fun _ e => ?_, fun _ _ b hb => ?_⟩
  · subst e
    have := h4.length
    cases ds with
    | nil => exact q.now h w (.d h5')
    | cons _ _ => simp at this
  · subst e
    have := h4'.length
    cases es with
    | nil => rw [List.append_nil] at h; exact q.now h w (.d h5)
    | cons _ _ => simp at this
  · exact q.frz w hb h (.d (.tupOf upd_same ((Same.new (w.fro.free hb)).dpAll (h4.append h4'))))
theorem o_cat {i j : Nat} {ds es : List PyData} (h1 : cs[i]? = some (.l ds)) (h2 : cs[j]? = some (.l es)) (hl : ds.length + es.length ≤ 100000) (h : k (.cel cs.length) (cs ++ [.l (ds ++ es)])) : O2 K C rCat (.cel i) (.cel j) cs k := fun F as H v u Q w r1 r2 q => by
  cases r1 with | cel hp =>
  cases r2 with | cel hp' =>
  obtain ⟨_, vs, h3, h4⟩ := w.lst hp h1
  obtain ⟨_, vs', h3', h4'⟩ := w.lst hp' h2
  exact ⟨_, _, vs, vs', rfl, rfl, h3, h3', line_of (by rw [h4.length, h4'.length]; exact hl), fun b hb => q.cell w hb trivial (.l upd_same (h4.append h4')) h⟩
theorem o_catL {i j : Nat} {ds es : List AV} (h1 : cs[i]? = some (.a ds)) (h2 : cs[j]? = some (.a es)) (hl : ds.length + es.length ≤ 100000) (h : k (.cel cs.length) (cs ++ [.a (ds ++ es)])) : O2 K C rCat (.cel i) (.cel j) cs k := fun F as H v u Q w r1 r2 q => by
  cases r1 with | cel hp =>
  cases r2 with | cel hp' =>
  obtain ⟨_, vs, h3, h4⟩ := w.lsa hp h1
  obtain ⟨_, vs', h3', h4'⟩ := w.lsa hp' h2
  exact ⟨_, _, vs, vs', rfl, rfl, h3, h3', line_of (by rw [← h4.length, ← h4'.length]; exact hl), fun b hb => q.cell w hb trivial (.a upd_same ((h4.append h4').mono (Same.refl _) Pre.snoc)) h⟩
theorem dpAll_rep : ∀ (n : Nat) {xs : List V} {ds : List PyData}, DpAll K F xs ds → DpAll K F (List.replicate n xs).flatten (List.replicate n ds).flatten
  | 0, _, _, _ => .nil
  | n + 1, _, _, h => by rw [List.replicate_succ, List.replicate_succ, List.flatten_cons, List.flatten_cons]; exact h.append (dpAll_rep n h)
theorem o_rep {i : Nat} {ds : List PyData} {z : Int} (h1 : cs[i]? = some (.l ds)) (hz1 : -(2 ^ 63) ≤ z) (hz2 : z < 2 ^ 63) (hl : ds.length * z.toNat ≤ 100000) (h : k (.cel cs.length) (cs ++ [.l (List.replicate z.toNat ds).flatten])) : O2 K C rRep (.cel i) (.d (.int z)) cs k := fun F as H v u Q w r1 r2 q => by
  cases r1 with | cel hp =>
  obtain ⟨_, vs, h3, h4⟩ := w.lst hp h1
  exact ⟨_, z, vs, rfl, r2.int, h3, hz1, hz2, line_of (by rw [h4.length]; exact hl), fun b hb => q.cell w hb trivial (.l upd_same (dpAll_rep _ h4)) h⟩
theorem o_neE {ds : List PyData} (h1 : lstOf x cs = some ds) (h2 : lstOf y cs = some []) (h : k (.d (.bool (!ds.isEmpty))) cs) : O2 K C (rNeE K) x y cs k := fun F as H v u Q w r1 r2 q => by
  obtain ⟨p, xs, rfl, h3, h4⟩ := lstOf_at h1 w r1
  obtain ⟨p', xs', rfl, h3', h4'⟩ := lstOf_at h2 w r2
  cases h4'
  refine ⟨p, p', xs, rfl, rfl, h3, h3', ?_⟩
  have e : xs.isEmpty = ds.isEmpty := by have := h4.length; cases xs <;> cases ds <;> simp_all
  rw [e]
  exact q.now h w (.d (.bl _))
/-! ### slices -/
def Evo (K : PySem.W.Frag) (C : Addr) (E : AEnv) (cs : List Cell) (to : TO) (ko : Option Int → List Cell → Prop) : Prop :=
  ∀ (F : Hp) (as : Own) (H : Hp) (σ : St) (Q : Option Int → Hp → Prop), Wd K C F as cs H → EnvR K C F as E σ →
    (∀ b cs' F' as' H', ko b cs' → Stp as.length F as H F' as' H' → Wd K C F' as' cs' H' → Q b H') → to σ H Q
theorem eo_no {ko : Option Int → List Cell → Prop} (h : ko none cs) : Evo K C E cs (fun _ H Q => Q none H) ko := fun F as H σ Q w e z => z none cs F as H h Stp.refl w
theorem eo_part {ko : Option Int → List Cell → Prop} (h : Ev K C E cs te fun x cs1 => IsI x fun i => ko (some i) cs1) : Evo K C E cs (tPart te) ko := fun F as H σ Q w e z => by
  refine h F as H σ _ w e fun x cs1 v F1 as1 H1 ⟨i, hx, h1⟩ s1 w1 r1 => ?_
  subst hx
  exact ⟨i, r1.int, z (some i) cs1 F1 as1 H1 h1 s1 w1⟩
def Osl (K : PySem.W.Frag) (C : Addr) (r : V → Option Int → Option Int → Hp → VK → Prop) (x : AV) (lo hi : Option Int) (cs : List Cell) (k : AV → List Cell → Prop) : Prop :=
  ∀ (F : Hp) (as : Own) (H : Hp) (v : V) (Q : VK), Wd K C F as cs H → AR K C F as x v → Kt K C F as H k Q → r v lo hi H Q
theorem ev_sl {r : V → Option Int → Option Int → Hp → VK → Prop} {tl th : TO} (h : Ev K C E cs te fun x cs1 => Evo K C E cs1 tl fun lo cs2 => Evo K C E cs2 th fun hi cs3 => Osl K C r x lo hi cs3 k) : Ev K C E cs (tSl r te tl th) k := fun F as H σ Q w e z => by
  refine h F as H σ _ w e fun x cs1 v F1 as1 H1 h1 s1 w1 r1 => ?_
  refine h1 F1 as1 H1 σ _ w1 (e.mono s1.f s1.pre) fun lo cs2 F2 as2 H2 h2 s2 w2 => ?_
  refine h2 F2 as2 H2 σ _ w2 ((e.mono s1.f s1.pre).mono s2.f s2.pre) fun hi cs3 F3 as3 H3 h3 s3 w3 => ?_
  exact h3 F3 as3 H3 v Q w3 ((r1.mono s2.f s2.pre).mono s3.f s3.pre) (Kt.later z ((s1.tr s2).tr s3))
def cutD {α : Type} (xs : List α) (lo hi : Option Int) : List α := (xs.drop (HT.sIx xs.length 0 lo)).take (HT.sIx xs.length xs.length hi - HT.sIx xs.length 0 lo)
theorem cutD_to {α : Type} {ds : List α} {n : Nat} : cutD ds none (some (n : Int)) = ds.take n := by
  unfold cutD
  rw [HT.sIx_none, HT.sIx_nat, List.drop_zero, Nat.sub_zero]
  rcases Nat.le_total n ds.length with h | h
  · rw [Nat.min_eq_left h]
  · rw [Nat.min_eq_right h, List.take_length, List.take_of_length_le h]
theorem cutD_from {α : Type} {ds : List α} {n : Nat} : cutD ds (some (n : Int)) none = ds.drop n := by
  unfold cutD
  rw [HT.sIx_none, HT.sIx_nat]
  rcases Nat.le_total n ds.length with h | h
  · rw [Nat.min_eq_left h, List.take_of_length_le (by rw [List.length_drop]; exact Nat.le_refl _)]
  · rw [Nat.min_eq_right h, List.drop_of_length_le h, List.drop_length]; simp
theorem cutD_len {α : Type} {xs : List α} {lo hi : Option Int} : (cutD xs lo hi).length ≤ xs.length := by
  unfold cutD
  rw [List.length_take, List.length_drop]; omega
theorem cut_dp {xs : List V} {ds : List PyData} {lo hi : Option Int} (h : DpAll K F xs ds) : DpAll K F (cutV xs lo hi) (cutD ds lo hi) := by
  unfold cutV cutD
  rw [h.length]
  exact (h.drop _).take _
theorem os_tup {ds : List PyData} {lo hi : Option Int} (h1 : tupOf x = some ds) (h : k (.d (.tuple (cutD ds lo hi))) cs) : Osl K C (rSlA K) x lo hi cs k := fun F as H v Q w r q => by
  obtain ⟨p, xs, rfl, h3, h4, h5⟩ := tupOf_at h1 w r
  refine ⟨p, xs, rfl, h3, fun e => ?_, fun _ b hb => ?_⟩
  · have : cutD ds lo hi = ds := by
      unfold cutD
      rw [← h4.length, e.1, e.2, h4.length]; simp
    rw [this] at h
    exact q.now h w (.d h5)
  · exact q.frz w hb h (.d (.tupOf upd_same ((Same.new (w.fro.free hb)).dpAll (cut_dp h4))))
theorem os_lst {ds : List PyData} {lo hi : Option Int} (h1 : lstOf x cs = some ds) (h : k (.cel cs.length) (cs ++ [.l (cutD ds lo hi)])) : Osl K C (rSlL K) x lo hi cs k := fun F as H v Q w r q => by
  obtain ⟨p, xs, rfl, h3, h4⟩ := lstOf_at h1 w r
  exact ⟨p, xs, rfl, h3, fun b hb => q.cell w hb trivial (.l upd_same (cut_dp h4)) h⟩
/-! ### one place -/
theorem o1_neg {i : Int} (h : k (.d (.int (-i))) cs) : O1 K C (rU fun i => .int (-i)) (.d (.int i)) cs k := fun F as H v Q w r q => ⟨i, r.int, q.now h w (.d (.int _))⟩
/-! ### builtins -/
theorem on_max {i j : Int} (h : k (.d (.int (if j > i then j else i))) cs) : On K C (fun xs H Q => ∃ i j, xs = [.int i, .int j] ∧ Q (.int (if j > i then j else i)) H) [.d (.int i), .d (.int j)] cs k := fun F as H vs Q w r q => by
  cases r with | cons r1 r2 =>
  cases r2 with | cons r2 r3 =>
  cases r3
  exact ⟨i, j, by rw [r1.int, r2.int], q.now h w (.d (.int _))⟩
theorem on_min {i j : Int} (h : k (.d (.int (if j < i then j else i))) cs) : On K C (fun xs H Q => ∃ i j, xs = [.int i, .int j] ∧ Q (.int (if j < i then j else i)) H) [.d (.int i), .d (.int j)] cs k := fun F as H vs Q w r q => by
  cases r with | cons r1 r2 =>
  cases r2 with | cons r2 r3 =>
  cases r3
  exact ⟨i, j, by rw [r1.int, r2.int], q.now h w (.d (.int _))⟩
theorem on_abs {i : Int} (h : k (.d (.int (if i < 0 then -i else i))) cs) : On K C (fun xs H Q => ∃ i, xs = [.int i] ∧ Q (.int (if i < 0 then -i else i)) H) [.d (.int i)] cs k := fun F as H vs Q w r q => by
  cases r with | cons r1 r2 =>
  cases r2
  exact ⟨i, by rw [r1.int], q.now h w (.d (.int _))⟩
theorem on_int {i : Int} (h : k (.d (.int i)) cs) : On K C (fun xs H Q => (∃ i, xs = [.int i] ∧ Q (.int i) H) ∨ ∃ k, xs = [.bl k] ∧ Q (.int (if k then 1 else 0)) H) [.d (.int i)] cs k := fun F as H vs Q w r q => by
  cases r with | cons r1 r2 =>
  cases r2
  exact .inl ⟨i, by rw [r1.int], q.now h w (.d (.int _))⟩
theorem on_intB {b : Bool} (h : k (.d (.int (if b then 1 else 0))) cs) : On K C (fun xs H Q => (∃ i, xs = [.int i] ∧ Q (.int i) H) ∨ ∃ k, xs = [.bl k] ∧ Q (.int (if k then 1 else 0)) H) [.d (.bool b)] cs k := fun F as H vs Q w r q => by
  cases r with | cons r1 r2 =>
  cases r2
  cases r1 with | d r1 =>
  exact .inr ⟨b, by rw [r1.bl_inv], q.now h w (.d (.int _))⟩
theorem on_lenL {ds : List PyData} (h1 : lstOf x cs = some ds) (h : k (.d (.int ds.length)) cs) : On K C (rLenY K) [x] cs k := fun F as H vs Q w r q => by
  cases r with | cons r1 r2 =>
  cases r2
  obtain ⟨p, xs, rfl, h3, h4⟩ := lstOf_at h1 w r1
  exact ⟨_, ds.length, rfl, .inl ⟨xs, h3, h4.length.symm⟩, q.now h w (.d (.int _))⟩
theorem on_lenA {j : Nat} {ys : List AV} (h1 : cs[j]? = some (.a ys)) (h : k (.d (.int ys.length)) cs) : On K C (rLenY K) [.cel j] cs k := fun F as H vs Q w r q => by
  cases r with | cons r1 r2 =>
  cases r2
  cases r1 with | cel hp =>
  obtain ⟨_, xs, h3, h4⟩ := w.lsa hp h1
  exact ⟨_, ys.length, rfl, .inl ⟨xs, SqL.of h3, h4.length⟩, q.now h w (.d (.int _))⟩
theorem on_lenT {ds : List PyData} (h1 : tupOf x = some ds) (h : k (.d (.int ds.length)) cs) : On K C (rLenY K) [x] cs k := fun F as H vs Q w r q => by
  cases r with | cons r1 r2 =>
  cases r2
  obtain ⟨p, xs, rfl, h3, h4, _⟩ := tupOf_at h1 w r1
  exact ⟨_, ds.length, rfl, .inr ⟨xs, h3, h4.length.symm⟩, q.now h w (.d (.int _))⟩
theorem on_tupL {ds : List PyData} (h1 : lstOf x cs = some ds) (h : k (.d (.tuple ds)) cs) : On K C (rTupOf K) [x] cs k := fun F as H vs Q w r q => by
  cases r with | cons r1 r2 =>
  cases r2
  obtain ⟨p, xs, rfl, h3, h4⟩ := lstOf_at h1 w r1
  exact ⟨p, xs, rfl, .inl ⟨h3, fun b hb => q.frz w hb h (.d (.tupOf upd_same ((Same.new (w.fro.free hb)).dpAll h4)))⟩⟩
theorem on_tupA {j : Nat} {ys : List AV} (h1 : cs[j]? = some (.a ys)) (h : k (.tup ys) cs) : On K C (rTupOf K) [.cel j] cs k := fun F as H vs Q w r q => by
  cases r with | cons r1 r2 =>
  cases r2
  cases r1 with | cel hp =>
  obtain ⟨_, xs, h3, h4⟩ := w.lsa hp h1
  exact ⟨_, xs, rfl, .inl ⟨SqL.of h3, fun b hb => q.frz w hb h (.tup (SqT.of upd_same) (h4.mono (Same.new (w.fro.free hb)) Pre.refl))⟩⟩
theorem on_lstL {ds : List PyData} (h1 : lstOf x cs = some ds) (h : k (.cel cs.length) (cs ++ [.l ds])) : On K C (rLstOf K) [x] cs k := fun F as H vs Q w r q => by
  cases r with | cons r1 r2 =>
  cases r2
  obtain ⟨p, xs, rfl, h3, h4⟩ := lstOf_at h1 w r1
  exact ⟨p, xs, rfl, .inl h3, fun b hb => q.cell w hb trivial (.l upd_same h4) h⟩
theorem on_lstT {ds : List PyData} (h1 : tupOf x = some ds) (h : k (.cel cs.length) (cs ++ [.l ds])) : On K C (rLstOf K) [x] cs k := fun F as H vs Q w r q => by
  cases r with | cons r1 r2 =>
  cases r2
  obtain ⟨p, xs, rfl, h3, h4, _⟩ := tupOf_at h1 w r1
  exact ⟨p, xs, rfl, .inr h3, fun b hb => q.cell w hb trivial (.l upd_same h4) h⟩
theorem dp_bls : ∀ {xs : List V} {bs : List Bool}, DpAll K F xs (bs.map PyData.bool) → xs = bs.map V.bl
  | _, [], h => by cases h; rfl
  | _, b :: bs, h => by
    cases h with
    | cons h1 h2 => rw [h1.bl_inv, dp_bls h2]; rfl
theorem on_all {bs : List Bool} {ds : List PyData} (h1 : lstOf x cs = some ds) (hb : ds = bs.map PyData.bool) (h : k (.d (.bool (bs.all id))) cs) : On K C (rAll K) [x] cs k := fun F as H vs Q w r q => by
  cases r with | cons r1 r2 =>
  cases r2
  obtain ⟨p, xs, rfl, h3, h4⟩ := lstOf_at h1 w r1
  subst hb
  exact ⟨p, bs, rfl, by rw [← dp_bls h4]; exact h3, q.now h w (.d (.bl _))⟩
/-- the name of a value's built-in type -/
def tyA (x : AV) (cs : List Cell) : Option String := match x with
  | .d d => some (tyD d)
  | .tup _ => some "tuple"
  | .cel i => match cs[i]? with
    | some (.l _) => some "list"
    | some (.a _) => some "list"
    | some (.g _ _) => some "list"
    | some (.k none _) => some "dict"
    | some (.m none _ _) => some "dict"
    | _ => none
  | .dct => some "dict"
  | _ => none
theorem tyA_at {s : String} {v : V} (h : tyA x cs = some s) (w : Wd K C F as cs H) (r : AR K C F as x v) : TyX K H v (.type s) ∧ s ∈ ["NoneType", "bool", "int", "str", "list", "tuple", "dict"] := by
  cases x with
  | d d => simp [tyA] at h; subst h; cases r with | d r => exact ⟨(w.fro.dp r).ty, tyD_mem d⟩
  | tup xs =>
    simp [tyA] at h; subst h
    cases r with | tup h1 h2 =>
    refine ⟨?_, by decide⟩
    rcases w.fro.sqT h1 with (h1 | ⟨o, h1⟩) | ⟨o, its, n, h1, h3, _⟩
    · exact .base (.tup h1)
    · exact .fTuple h1
    · exact .kTuple h1 h3
  | cel i =>
    cases r with | cel hp =>
    simp only [tyA] at h
    cases e : cs[i]? with
    | none => rw [e] at h; cases h
    | some c =>
      have hc := w.ok i _ _ hp e
      rw [e] at h
      cases hc with
      | l h1 h2 => simp at h; subst h; exact ⟨.base (.lst h1), by decide⟩
      | a h1 h2 => simp at h; subst h; exact ⟨.base (.lst h1), by decide⟩
      | g h1 h2 => simp at h; subst h; exact ⟨.base (.lst h1), by decide⟩
      | @k p lk kvs xs h0 h1 h2 h3 =>
        cases lk with
        | none => simp at h; subst h; exact ⟨.base (.dK h1), by decide⟩
        | some o => simp at h
      | @m p qs lk ks rows h1 h2 h3 =>
        cases lk with
        | none => simp at h; subst h; exact ⟨.base (.dK h1), by decide⟩
        | some o => simp at h
      | x => simp at h
      | o => simp at h
  | dct =>
    simp [tyA] at h; subst h
    cases r with | dct hp => exact ⟨.base (.dK (w.fro _ _ hp)), by decide⟩
  | _ => simp [tyA] at h
theorem on_isD {s c : String} (h1 : tyA x cs = some s) (hc : c ∈ ["bool", "int", "str", "list", "tuple", "dict"]) (h : k (.d (.bool (isTy s c))) cs) : On K C (rIsD K) [x, .ty c] cs k := fun F as H vs Q w r q => by
  cases r with | cons r1 r2 =>
  cases r2 with | cons r2 r3 =>
  cases r3
  cases r2
  obtain ⟨h2, h3⟩ := tyA_at h1 w r1
  exact ⟨_, s, c, rfl, h2, h3, hc, q.now h w (.d (.bl _))⟩
/-! ### methods of lists -/
theorem ty_l {i : Nat} {ds : List PyData} (h : cs[i]? = some (.l ds)) : TyA K C "list" (.cel i) cs := fun F as H v w r => by
  cases r with | cel hp =>
  obtain ⟨_, vs, h1, _⟩ := w.lst hp h
  exact .inl ⟨rfl, vs, SqL.of h1⟩
theorem ty_a {i : Nat} {ds : List AV} (h : cs[i]? = some (.a ds)) : TyA K C "list" (.cel i) cs := fun F as H v w r => by
  cases r with | cel hp =>
  obtain ⟨_, vs, h1, _⟩ := w.lsa hp h
  exact .inl ⟨rfl, vs, SqL.of h1⟩
theorem ty_str {s : Str} : TyA K C "str" (.d (.str s)) cs := fun F as H v w r => by rw [r.str]; exact rfl
theorem Kt.put {Q : VK} (q : Kt K C F as H k Q) (w : Wd K C F as cs H) {i : Nat} {p : Addr} {o : HO} {c : Cell} (hi : as[i]? = some [p]) (ho : NoTup o) (hc : CellOk K C F as (upd H p o) [p] c) (h : k (.d .none) (cs.set i c)) : Q .non (upd H p o) := by
  obtain ⟨w1, s1⟩ := w.put hi (by simp) ho hc
  exact q _ _ _ _ _ _ h s1 w1 (.d .non)
theorem om_append {i : Nat} {ds : List PyData} {d : PyData} (h1 : cs[i]? = some (.l ds)) (hl : ds.length < 100000) (h : k (.d .none) (cs.set i (.l (ds ++ [d])))) : Om K C rAppend (.cel i) [.d d] cs k := fun F as H v vs Q w r1 r2 q => by
  cases r1 with | cel hp =>
  cases r2 with | cons r2 r3 =>
  cases r3
  cases r2 with | d r2 =>
  obtain ⟨rfl, xs, h3, h4⟩ := w.lst hp h1
  exact ⟨_, xs, _, rfl, rfl, h3, line_lt (by rw [h4.length]; exact hl), q.put w hp trivial (.l upd_same (h4.snoc r2)) h⟩
theorem om_appendA {i : Nat} {ys : List AV} {y : AV} (h1 : cs[i]? = some (.a ys)) (hl : ys.length < 100000) (h : k (.d .none) (cs.set i (.a (ys ++ [y])))) : Om K C rAppend (.cel i) [y] cs k := fun F as H v vs Q w r1 r2 q => by
  cases r1 with | cel hp =>
  cases r2 with | cons r2 r3 =>
  cases r3
  obtain ⟨rfl, xs, h3, h4⟩ := w.lsa hp h1
  exact ⟨_, xs, _, rfl, rfl, h3, line_lt (by rw [← h4.length]; exact hl), q.put w hp trivial (.a upd_same (h4.append (.cons r2 .nil))) h⟩
theorem om_insert {i : Nat} {ds : List PyData} {z : Int} {d : PyData} (h1 : cs[i]? = some (.l ds)) (hl : ds.length < 100000) (hz0 : 0 ≤ z) (hz1 : z < 2 ^ 63) (h : k (.d .none) (cs.set i (.l (ds.take z.toNat ++ [d] ++ ds.drop z.toNat)))) :
    Om K C (fun x vs H Q => ∃ (l : Addr) (xs : List V) (i : Int) (y : V), x = .ref l ∧ vs = [.int i, y] ∧ H l = some (.lst xs) ∧ xs.length < sizeLine ∧ 0 ≤ i ∧ i < 2 ^ 63 ∧ Q .non (upd H l (.lst (xs.take i.toNat ++ [y] ++ xs.drop i.toNat)))) (.cel i) [.d (.int z), .d d] cs k := fun F as H v vs Q w r1 r2 q => by
  cases r1 with | cel hp =>
  cases r2 with | cons r2 r3 =>
  cases r3 with | cons r3 r4 =>
  cases r4
  cases r3 with | d r3 =>
  obtain ⟨rfl, xs, h3, h4⟩ := w.lst hp h1
  exact ⟨_, xs, z, _, rfl, by rw [r2.int], h3, line_lt (by rw [h4.length]; exact hl), hz0, hz1, q.put w hp trivial (.l upd_same (((h4.take _).append (.one r3)).append (h4.drop _))) h⟩
theorem om_extend {i j : Nat} {ds es : List PyData} (h1 : cs[i]? = some (.l ds)) (h2 : cs[j]? = some (.l es)) (hl : ds.length + es.length ≤ 100000) (h : k (.d .none) (cs.set i (.l (ds ++ es)))) : Om K C rExtend (.cel i) [.cel j] cs k := fun F as H v vs Q w r1 r2 q => by
  cases r1 with | cel hp =>
  cases r2 with | cons r2 r3 =>
  cases r3
  cases r2 with | cel hp' =>
  obtain ⟨rfl, xs, h3, h4⟩ := w.lst hp h1
  obtain ⟨rfl, xs', h3', h4'⟩ := w.lst hp' h2
  exact ⟨_, _, xs, xs', rfl, rfl, h3, h3', line_of (by rw [h4.length, h4'.length]; exact hl), q.put w hp trivial (.l upd_same (h4.append h4')) h⟩
theorem DpAll.setD : ∀ {xs : List V} {ds : List PyData} {v : V} {d : PyData} (i : Nat), DpAll K F xs ds → Dp K F v d → DpAll K F (xs.set i v) (ds.set i d)
  | [], _, _, _, _, h, _ => by cases h; exact .nil
  | _ :: _, _, _, _, 0, h, g => by cases h with | cons h1 h2 => exact .cons g h2
  | _ :: _, _, _, _, i + 1, h, g => by cases h with | cons h1 h2 => exact .cons h1 (DpAll.setD i h2 g)
def IsSub (x z y : AV) (cs : List Cell) (f : List Cell → Prop) : Prop := ∃ (i : Nat) (ds : List PyData) (l : Int) (j : Nat) (d : PyData), x = .cel i ∧ z = .d (.int l) ∧ y = .d d ∧ cs[i]? = some (.l ds) ∧ ixN ds.length l = some j ∧ f (cs.set i (.l (ds.set j d)))
theorem isSub {i : Nat} {l : Int} {d : PyData} {ds : List PyData} {j : Nat} {f : List Cell → Prop} (h : cs[i]? = some (.l ds)) (hj : ixN ds.length l = some j) (q : f (cs.set i (.l (ds.set j d)))) : IsSub (.cel i) (.d (.int l)) (.d d) cs f := ⟨i, ds, l, j, d, rfl, rfl, rfl, h, hj, q⟩
/-- xs[i] = v -/
theorem eg_sub {n : Nat} {y : AV} {to ti : TE} {kg : AEnv → List Cell → Prop} (h : Ev K C E cs to fun x cs1 => Ev K C E cs1 ti fun z cs2 => IsSub x z y cs2 fun cs3 => kg E cs3) :
    Eg K C n E y cs (gSub to ti rSetL) kg := fun F as H σ v Q hn w e r q => by
  refine h F as H σ _ w e fun x cs1 o F1 as1 H1 h1 s1 w1 r1 => ?_
  refine h1 F1 as1 H1 σ _ w1 (e.mono s1.f s1.pre) fun z cs2 u F2 as2 H2 ⟨i, ds, l, j, d, hx, hz, hy, hc, hj, h2⟩ s2 w2 r2 => ?_
  subst hx; subst hz; subst hy
  have r1' := r1.mono s2.f s2.pre
  have s12 := s1.tr s2
  have r' := r.mono s12.f s12.pre
  cases r1' with | cel hp =>
  cases r' with | d r' =>
  obtain ⟨rfl, xs, h3, h4⟩ := w2.lst hp hc
  have hn' : n ≤ as.length := by rw [w.len]; exact hn
  obtain ⟨w3, s3⟩ := w2.put (c := .l (ds.set j d)) (o := .lst (xs.set j v)) hp (by simp) trivial (.l upd_same (DpAll.setD j h4 r'))
  refine ⟨_, xs, l, j, rfl, r2.int, h3, by rw [h4.length]; exact hj, ?_⟩
  exact q _ _ F2 as2 _ σ h2 ((s12.weak hn').trans (s3.weak (Nat.le_trans hn' s12.pre.len))) w3 ((e.mono s12.f s12.pre))
end
end Y

/-! # Pure states: more -/
namespace Y
open PySem L2
section
open PySem.Spec PyProof.Rows
variable {X : Cx}
def rCntD (K : PySem.W.Frag) : V → List V → Hp → VK → Prop := fun x xs H Q => ∃ (a : Addr) (y : V) (d : PyData) (ds : List PyData), x = V.ref a ∧ xs = [y] ∧ Dp K H (V.ref a) (.list ds) ∧ Dp K H y d ∧
  SeqAt.shaped (.list ds) = true ∧ SeqAt.shaped d = true ∧ Q (.int (ds.countP fun z => PyData.eqv z d : Nat)) H
theorem mt_countD (hu : X.A.units + 65 < cLine) : MtR X "list.count" (rCntD X.K) := by
  intro pins s σ H x xs v us Q I rx rxs h
  obtain ⟨a, y, d, ds, rfl, rfl, hl, hy, sl, sd, q⟩ := h
  cases rx
  cases rxs with
  | cons ry rt =>
    rename_i uy ut
    cases rt
    obtain ⟨bs, r1⟩ := Dp.reads I d y uy hy ry
    have hxs : PyData.canLayAll0 ds = true := SeqAt.canLay_of_shaped sl
    have hroom : X.A.units + 1 + min (PyData.depthAll ds) d.depth < cLine := room_in_shaped sd hu
    cases hl with
    | lst hs ha =>
      obtain ⟨its, rv, ⟨⟨cls, dd, data, sls⟩, n, ho, hc, hdn, hdt⟩, hlen⟩ := I.list hs
      simp only at hc hdt
      subst hc hdt
      obtain ⟨as, h4⟩ := Dp.readsAll I ds _ its ha rv
      have hmap : its.map (SeqAt.readOf s.heap) = ds := SeqAt.readsAll_map ds its as hxs h4
      refine call_meets PySem.F.slot_list_count ⟨_, ho, rfl⟩ PySem.F.entry_list_count (PySem.F.args_list_count_2 _ _)
        (SeqAt.list_countAt a its.toArray n dd sls uy (fun u => PyData.eqv (SeqAt.readOf s.heap u) d)) ⟨ho, SeqAt.items_eqAt (vs := its.toArray) (show ReadsAll s.heap its.toArray.toList ds as from h4) r1 hxs (SeqAt.canLay_of_shaped sd) hroom, ?_⟩
      refine ⟨.int (ds.countP fun z => PyData.eqv z d : Nat), H, I.tok _, ⟨s.toks, ?_⟩, q⟩
      have e : its.toArray.toList.countP (fun u => PyData.eqv (SeqAt.readOf s.heap u) d) = ds.countP fun z => PyData.eqv z d := by
        rw [← hmap, List.countP_map]; rfl
      show Value.int ((its.toArray.toList.countP _ : Nat) : Int) s.toks = _
      rw [e]
theorem mt_countDK (K : PySem.W.Frag) (hu : X.A.units + 65 < cLine) (hK : X.K = K := by rfl) : MtR X "list.count" (rCntD K) := by subst hK; exact mt_countD hu
theorem pe_bmK2 (K : PySem.W.Frag) {o e : Expr} {es : List Expr} {to : TE} {t : TA} {name : Str} {apos cpos : Pos} {T id : String} {r : V → List V → Hp → VK → Prop} (pa : PlainAttrs T) (slot : Slot T name id) (hty : typeOf (.builtin id) = pure (.type "method_descriptor")) (hm : MtR X id r) (ho : PE X o to) (ha : PA X (e :: es) t) (hK : X.K = K := by rfl) (hb : attributeBase o name X.env (eval o X.env) = eval o X.env := by rfl) (hf : ((backTo cpos (starEach (e :: es) X.env)).all (fun x => !x.1) && (backToKw cpos (keywordEach [] X.env)).all (fun x => x.1.isSome) && decide ((e :: es).length + ([] : List Keyword).length + (if ([] : List Keyword).isEmpty then 0 else 1) < 30)) = true := by rfl) (hl : (apos.endLine == cpos.line) = true := by rfl) (hs : starEach (e :: es) X.env = (false, eval e X.env) :: starEach es X.env := by rfl) (hp : (backTo cpos (starEach es X.env)).any (·.1) = false := by rfl) : PE X (.Call (.Attribute o name apos) (e :: es) [] cpos) (tBM K T r to t) := by
  subst hK; exact pe_bm pa slot hty hm ho ha hb hf hl hs hp
theorem pe_bm0K (K : PySem.W.Frag) {o : Expr} {to : TE} {name : Str} {apos cpos : Pos} {T id : String} {r : V → List V → Hp → VK → Prop} (pa : PlainAttrs T) (slot : Slot T name id) (hty : typeOf (.builtin id) = pure (.type "method_descriptor")) (hm : MtR X id r) (ho : PE X o to)
    (hK : X.K = K := by rfl) (hbase : attributeBase o name X.env (eval o X.env) = eval o X.env := by rfl) (hline : (apos.endLine == cpos.line) = true := by rfl) : PE X (.Call (.Attribute o name apos) [] [] cpos) (tBM0 K T r to) := by
  subst hK; exact pe_bm0 pa slot hty hm ho hbase hline
theorem cr_maxK (K : PySem.W.Frag) (hc : X.calm = true) (hK : X.K = K := by rfl) : CallR X (.builtin "max") (rMax K) := by subst hK; exact cr_max hc
theorem cr_minK (K : PySem.W.Frag) (hc : X.calm = true) (hK : X.K = K := by rfl) : CallR X (.builtin "min") (rMin K) := by subst hK; exact cr_min hc
theorem pa_starK (K : PySem.W.Frag) {e : Expr} {p : Pos} {es : List Expr} {te : TE} {t : TA} (he : PE X e te) (hr : PA X es t) (hK : X.K = K := by rfl) : PA X (.Starred e p :: es) (StX.tStar K te t) := by subst hK; exact StX.pa_star he hr
end
section
variable {K : PySem.W.Frag} {C : Addr} {F F' H H' : Hp} {as as' : Own} {cs cs' cs1 : List Cell} {E : AEnv} {k : AV → List Cell → Prop} {x y : AV}
theorem om_count {d : PyData} {ds : List PyData} (h1 : lstOf x cs = some ds) (h2 : datOf y cs = some d) (s1 : SeqAt.shaped (.list ds) = true) (s2 : SeqAt.shaped d = true) (h : k (.d (.int (ds.countP fun z => PyData.eqv z d : Nat))) cs) : Om K C (rCntD K) x [y] cs k := fun F as H v vs Q w r1 r2 q => by
  cases r2 with | cons r2 r3 =>
  cases r3
  obtain ⟨p, xs, rfl, h3, h4⟩ := lstOf_at h1 w r1
  exact ⟨p, _, d, ds, rfl, rfl, .lst h3 (w.fro.dpAll h4), datOf_at h2 w r2, s1, s2, q.now h w (.d (.int _))⟩
/-- what a callee says of a new list -/
theorem Kt.newL {Q : VK} (q : Kt K C F as H k Q) (w : Wd K C F as cs H) (s : Same H H') {f : Addr} {xs : List V} {ds : List PyData} (nf : H f = none) (hf : H' f = some (.lst xs)) (hx : DpAll K H' xs ds) (im : immAll ds = true) (h : k (.cel cs.length) (cs ++ [.l ds])) : Q (.ref f) H' := by
  obtain ⟨H1, e1⟩ : ∃ H1 : Hp, H1 = fun b => if b = f then none else H' b := ⟨_, rfl⟩
  have n1 : H1 f = none := by rw [e1]; simp
  have o1 : ∀ b, b ≠ f → H1 b = H' b := fun b hb => by rw [e1]; simp [hb]
  have s1 : Same H H1 := fun b o hb => by
    have : b ≠ f := fun z => by rw [z, nf] at hb; cases hb
    rw [o1 b this]; exact s b o hb
  have e2 : upd H1 f (.lst xs) = H' := by
    funext b
    by_cases hb : b = f
    · subst hb; rw [upd_same, hf]
    · rw [upd_ne hb, o1 b hb]
  have t1 : Tups H' H1 := ⟨fun a ys ha => by
    have : a ≠ f := fun z => by rw [z, hf] at ha; cases ha
    rw [o1 a this]; exact ha, fun a o ys ha => by
    have : a ≠ f := fun z => by rw [z, hf] at ha; cases ha
    rw [o1 a this]; exact ha⟩
  obtain ⟨w1, st1⟩ := w.same s1
  have d1 := w1.immAll im (t1.dpAll im hx)
  rw [← e2]
  exact (Kt.later q st1).cell w1 n1 trivial (.l upd_same d1) h
/-- .. of new data that never changes -/
theorem Kt.newD {Q : VK} (q : Kt K C F as H k Q) (w : Wd K C F as cs H) (s : Same H H') {v : V} {d : PyData} (hx : Dp K H' v d) (im : imm d = true) (h : k (.d d) cs) : Q v H' := by
  obtain ⟨w1, st1⟩ := w.same s
  exact q _ _ _ _ _ _ h st1 w1 (.d (w1.imm im hx))
/-- .. of a new script -/
theorem Kt.newS {Q : VK} (q : Kt K C F as H k Q) (w : Wd K C F as cs H) (s : Same H H') {a : Addr} {ds : List PyData} (na : H a = none) (hx : ScrA K C H' a ds) (im : immAll ds = true) (h : k (.scr ds) cs) : Q (.ref a) H' := by
  obtain ⟨w1, st1⟩ := w.same s
  obtain ⟨dx, v, h1, h2⟩ := hx
  exact q _ _ _ _ _ _ h st1 w1 (.scr ⟨dx, v, by rw [absF_new na]; exact h1, w1.imm (d := .tuple ds) im h2⟩)
theorem dp_ints : ∀ {xs : List V} {ns : List Int}, DpAll K F xs (ns.map PyData.int) → xs = ns.map V.int
  | _, [], h => by cases h; rfl
  | _, n :: ns, h => by
    cases h with
    | cons h1 h2 => rw [h1.int_inv, dp_ints h2]; rfl
theorem on_max1 {ns : List Int} {ds : List PyData} (h1 : lstOf x cs = some ds) (hd : ds = ns.map PyData.int) (hn : 0 < ns.length) (h : ∀ m, m ∈ ns → (∀ y, y ∈ ns → y ≤ m) → k (.d (.int m)) cs) : On K C (rMax K) [x] cs k := fun F as H vs Q w r q => by
  cases r with | cons r1 r2 =>
  cases r2
  obtain ⟨p, xs, rfl, h3, h4⟩ := lstOf_at h1 w r1
  subst hd
  exact ⟨p, ns, rfl, by rw [← dp_ints h4]; exact h3, hn, fun m hm hy => q.now (h m hm hy) w (.d (.int _))⟩
theorem on_min1 {ns : List Int} {ds : List PyData} (h1 : lstOf x cs = some ds) (hd : ds = ns.map PyData.int) (hn : 0 < ns.length) (h : ∀ m, m ∈ ns → (∀ y, y ∈ ns → m ≤ y) → k (.d (.int m)) cs) : On K C (rMin K) [x] cs k := fun F as H vs Q w r q => by
  cases r with | cons r1 r2 =>
  cases r2
  obtain ⟨p, xs, rfl, h3, h4⟩ := lstOf_at h1 w r1
  subst hd
  exact ⟨p, ns, rfl, by rw [← dp_ints h4]; exact h3, hn, fun m hm hy => q.now (h m hm hy) w (.d (.int _))⟩
theorem evs_starD {te : TE} {t : TA} {kl : List AV → List Cell → Prop} (h : Ev K C E cs te fun x cs1 => ∃ ds, tupOf x = some ds ∧ Evs K C E cs1 t fun xs cs2 => kl (ds.map AV.d ++ xs) cs2) : Evs K C E cs (StX.tStar K te t) kl := fun F as H σ Q w e z => by
  refine h F as H σ _ w e fun x cs1 v F1 as1 H1 ⟨ds, hd, h1⟩ s1 w1 r1 => ?_
  obtain ⟨p, xs, rfl, h3, h4, _⟩ := tupOf_at hd w1 r1
  refine ⟨p, xs, rfl, .inl h3, ?_⟩
  refine h1 F1 as1 H1 σ _ w1 (e.mono s1.f s1.pre) fun ys cs2 us F2 as2 H2 h2 s2 w2 r2 => ?_
  exact z _ cs2 _ F2 as2 H2 h2 (s1.tr s2) w2 ((ARs.data (s2.f.dpAll h4)).append r2)
/-! ### a body's end: what is over is dropped -/
def Rt (n : Nat) (k : AV → List Cell → Prop) (x : AV) (cs' : List Cell) : Prop :=
  (∃ j, n ≤ j ∧ AV.lt j x = true ∧ ltC j (cs'.take j) = true ∧ k x (cs'.take j)) ∨
  ∃ j ds, x = .cel j ∧ cs'[j]? = some (.l ds) ∧ n ≤ j ∧ ltC n (cs'.take n) = true ∧ k (.cel n) (cs'.take n ++ [.l ds])
theorem Wd.pick (w : Wd K C F as cs H) {n j : Nat} {own : List Addr} {ds : List PyData} (hn : n ≤ j) (ho : as[j]? = some own) (hc : cs[j]? = some (.l ds)) (hl : ltC n (cs.take n) = true) : Wd K C F (as.take n ++ [own]) (cs.take n ++ [.l ds]) H := by
  have hj : j < as.length := (List.getElem?_eq_some_iff.mp ho).1
  have hn' : n ≤ as.length := by omega
  have lt : (as.take n).length = n := by rw [List.length_take]; omega
  have w1 := w.cut (n := n) fun c hc' => ltC_get hl hc'
  refine ⟨w.fro, fun i o hi b hb => ?_, fun i i' o o' hi hi' hne b hb => ?_, fun i o hi => ?_, by rw [List.length_append, List.length_append, w1.len]; rfl, fun i o c hi hc' => ?_, fun i o hi b hb u h => ?_, w.tp⟩
  · rcases get_snoc hi with hi | ⟨_, rfl⟩
    · exact w1.dis i o hi b hb
    · exact w.dis j o ho b hb
  · rcases get_snoc hi with g1 | ⟨e1, q1⟩ <;> rcases get_snoc hi' with g2 | ⟨e2, q2⟩
    · exact w1.sep i i' o o' g1 g2 hne b hb
    · have := get_take g1
      rw [q2]
      exact w.sep i j o own this.1 ho (by omega) b hb
    · have := get_take g2
      rw [q1] at hb
      exact w.sep j i' own o' ho this.1 (by omega) b hb
    · exact absurd (e1.trans e2.symm) hne
  · rcases get_snoc hi with hi | ⟨_, rfl⟩
    · exact w1.nd i o hi
    · exact w.nd j o ho
  · rcases get_snoc hi with hi | ⟨e1, rfl⟩
    · rw [List.getElem?_append_left (by rw [← w1.len]; exact (List.getElem?_eq_some_iff.mp hi).1)] at hc'
      exact (w1.ok i o c hi hc').mono (Same.refl F) Pre.snoc fun b _ u h => h
    · rw [e1, w1.len] at hc'
      rcases get_snoc hc' with z | ⟨_, rfl⟩
      · rw [List.getElem?_eq_none (Nat.le_refl _)] at z; cases z
      · have := w.ok j _ _ ho hc
        cases this with | l h1 h2 => exact .l h1 h2
  · rcases get_snoc hi with hi | ⟨_, rfl⟩
    · exact w1.mu i o hi b hb u h
    · exact w.mu j o ho b hb u h
theorem body_rt {N : List Str} {xs : List AV} {vs : List V} {t : TS} {Q : VK} (w : Wd K C F as cs H) (r : ARs K C F as xs vs) (hx : Ex K C cs.length (startE N xs) cs t { nx := fun _ cs' => Rt cs.length k (.d .none) cs', rt := Rt cs.length k })
    (q : ∀ r cs' v F' as' H', k r cs' → Stp as.length F as H F' as' H' → Wd K C F' as' cs' H' → AR K C F' as' r v → Q v H') : t { nx := fun _ H' => Q .non H', rt := Q } (L2.start N vs) H := by
  have key : ∀ r cs' v F' as' H', Rt cs.length k r cs' → Stp as.length F as H F' as' H' → Wd K C F' as' cs' H' → AR K C F' as' r v → Q v H' := fun r cs' v F' as' H' h s w' r' => by
    rcases h with ⟨j, h1, h2, h3, h4⟩ | ⟨j, ds, rfl, h2, h3, h4, h5⟩
    · exact q r _ v F' _ H' h4 (s.cut (by rw [w.len]; exact h1)) (w'.cut fun c hc => ltC_get h3 hc) (r'.cut h2)
    · cases r' with | cel hp =>
      obtain ⟨rfl, _⟩ := w'.lst hp h2
      have lt : (as'.take cs.length).length = cs.length := by rw [List.length_take, ← w.len]; have := s.pre.len; omega
      refine q _ _ _ F' _ H' h5 ?_ (w'.pick h3 hp h2 h4) (.cel (r := []) (by rw [List.getElem?_append_right (Nat.le_of_eq lt), lt]; simp))
      have s1 := s.cut (m := cs.length) (by rw [w.len]; exact Nat.le_refl _)
      exact ⟨s1.f, fun i hi own ho => by
        obtain ⟨r, e⟩ := s1.a i hi own ho
        exact ⟨r, by rw [List.getElem?_append_left (List.getElem?_eq_some_iff.mp e).1]; exact e⟩, s1.fr, s1.dm, s1.nf, fun b ⟨i, own, hi, hb⟩ => by
        rcases get_snoc hi with hi | ⟨_, rfl⟩
        · exact s1.na b ⟨i, own, hi, hb⟩
        · exact s.na b ⟨j, _, hp, hb⟩⟩
  exact body_ok w r hx key
theorem body_go {N : List Str} {xs : List AV} {vs : List V} {t : TS} {Q : VK} {n : Nat} (E : AEnv) (hE : startE N xs = E) (hn : cs.length = n) (w : Wd K C F as cs H) (r : ARs K C F as xs vs) (hx : Ex K C n E cs t { nx := fun _ cs' => Rt n k (.d .none) cs', rt := Rt n k })
    (q : ∀ r cs' v F' as' H', k r cs' → Stp as.length F as H F' as' H' → Wd K C F' as' cs' H' → AR K C F' as' r v → Q v H') : t { nx := fun _ H' => Q .non H', rt := Q } (L2.start N vs) H := by
  subst hE; subst hn
  exact body_rt w r hx q
theorem Rt.here {n : Nat} {x : AV} (h : k x cs) (h1 : n ≤ cs.length) (h2 : AV.lt cs.length x = true) (h3 : ltC cs.length cs = true) : Rt n k x cs := .inl ⟨cs.length, h1, h2, by rw [List.take_length]; exact h3, by rw [List.take_length]; exact h⟩
theorem Rt.cut {n : Nat} {x : AV} (j : Nat) (h : k x (cs.take j)) (h1 : n ≤ j) (h2 : AV.lt j x = true) (h3 : ltC j (cs.take j) = true) : Rt n k x cs := .inl ⟨j, h1, h2, h3, h⟩
theorem Rt.pick {n j : Nat} {ds : List PyData} (hc : cs[j]? = some (.l ds)) (h : k (.cel n) (cs.take n ++ [.l ds])) (h1 : n ≤ j) (h3 : ltC n (cs.take n) = true) : Rt n k (.cel j) cs := .inr ⟨j, ds, rfl, hc, h1, h3, h⟩
theorem ex_mid {n : Nat} {D : AEnds} {t u : TS} (Mid : AEnv → List Cell → Prop) (h : Ex K C n E cs t { D with nx := Mid }) (q : ∀ E' cs', Mid E' cs' → Ex K C n E' cs' u D) : Ex K C n E cs (C8.tCut t u) D := fun F as H σ Dc hn w e d => by
  have hn' : n ≤ as.length := by rw [w.len]; exact hn
  refine ⟨fun σ' H' => ∃ E' cs' F' as', Mid E' cs' ∧ Stp n F as H F' as' H' ∧ Wd K C F' as' cs' H' ∧ EnvR K C F' as' E' σ', ?_, ?_⟩
  · exact h F as H σ _ hn w e ⟨fun E' cs' F' as' H' σ' g s w' e' => ⟨E', cs', F', as', g, s, w', e'⟩, d.rt, d.bk, d.ct, d.ex⟩
  · rintro σ' H' ⟨E', cs', F', as', g, s, w', e'⟩
    exact q E' cs' g F' as' H' σ' Dc (by rw [← w'.len]; exact s.len hn') w' e' (d.later s)
theorem ev_chain {r r' : R2} {ta tb tc : TE} (h : Ev K C E cs ta fun x cs1 => Ev K C E cs1 tb fun y cs2 => O2 K C r x y cs2 fun z cs3 => IsB z fun b => if b = true then Ev K C E cs3 tc fun u cs4 => O2 K C r' y u cs4 k else k (.d (.bool false)) cs3) : Ev K C E cs (tChain r r' ta tb tc) k := fun F as H σ Q w e z => by
  refine h F as H σ _ w e fun x cs1 v F1 as1 H1 h1 s1 w1 r1 => ?_
  refine h1 F1 as1 H1 σ _ w1 (e.mono s1.f s1.pre) fun y cs2 u F2 as2 H2 h2 s2 w2 r2 => ?_
  refine h2 F2 as2 H2 v u _ w2 (r1.mono s2.f s2.pre) r2 fun bz cs3 bv F3 as3 H3 ⟨b, hb, h3⟩ s3 w3 r3 => ?_
  subst hb
  cases r3 with | d r3 =>
  have s13 := (s1.tr s2).tr s3
  refine ⟨b, r3.bl_inv, ?_⟩
  cases b with
  | false => exact z _ cs3 _ F3 as3 H3 h3 s13 w3 (.d (.bl false))
  | true =>
    refine h3 F3 as3 H3 σ _ w3 (e.mono s13.f s13.pre) fun y2 cs4 u2 F4 as4 H4 h4 s4 w4 r4 => ?_
    exact h4 F4 as4 H4 u u2 Q w4 ((r2.mono s3.f s3.pre).mono s4.f s4.pre) r4 (Kt.later z (s13.tr s4))
/-- a method of a script, by its contract -/
theorem ev_methD {A : ASp} {m : Str} {X : XK} {te : TE} {tas : TA} (hm : m ≠ "kept_steps") (h : Ev K C E cs te fun x cs1 => IsScr x fun ds => Evs K C E cs1 tas fun xs cs2 => IsDs xs fun es => A (.scr ds :: es.map AV.d) [] fun y cz' => k (y.ren (rho [] cs2.length)) (putC cs2 [] (cz'.map (Cell.ren (rho [] cs2.length))))) : Ev K C E cs (tMeth C m (spA K C A) [] X te tas) k := fun F as H σ Q w e z => by
  refine h F as H σ _ w e fun x cs1 v F1 as1 H1 ⟨ds, hx, h1⟩ s1 w1 r1 => ?_
  subst hx
  have r1' := r1
  cases r1 with | scr hs =>
  obtain ⟨dx, u, h2, h3⟩ := hs
  refine ⟨_, dx, _, rfl, w1.fro _ _ h2, by rw [lookup_putF, if_neg hm]; rfl, ?_⟩
  refine h1 F1 as1 H1 σ _ w1 (e.mono s1.f s1.pre) fun xs cs2 vs F2 as2 H2 ⟨es, he, _, hA⟩ s2 w2 r2 => ?_
  rw [List.append_nil]
  refine call_core (is := []) (zs := .scr ds :: es.map AV.d) (cz := []) (xs := .scr ds :: xs) ⟨List.nodup_nil, fun i hi => absurd hi (List.not_mem_nil), ?_, ?_, rfl, rfl⟩ w2 (.cons (r1'.mono s2.f s2.pre) r2) hA (Kt.later z (s1.tr s2))
  · rw [unD_eq he]
    show AV.scr ds :: AV.renAll _ _ = _
    rw [renAll_map, List.map_map]; rfl
  · show (AV.lt 0 (.scr ds) && AV.ltAll 0 (es.map AV.d)) = true
    have : ∀ es : List PyData, AV.ltAll 0 (es.map AV.d) = true := fun es => by
      induction es with
      | nil => rfl
      | cons d ds ih => simpa [AV.ltAll, AV.lt] using ih
    rw [this]; rfl
theorem ite_f {A B : Prop} (h : B) : if false = true then A else B := h
theorem ite_t {A B : Prop} (h : A) : if true = true then A else B := h
/-- [e for g in wi if tt], where nothing changes -/
theorem ev_lcP {te : TE} {wi : TI} {g : TG} {tt : TT} {vs : List Nat} (m : Nat) (f : Nat → Bool) (v : Nat → PyData) (h : Evi K C m E cs wi fun items ok cs1 => cs1.length = m ∧ items.length ≤ 99999 ∧ ok cs1 ∧ ltC m cs1 = true ∧
      (∀ i y, items[i]? = some y → EgC K C vs (wipeE E vs) y cs1 g fun E2 cs2 => Evt K C E2 cs2 tt fun b cs3 => b = f i ∧ cs3.take m = cs1 ∧ (b = true → Ev K C E2 cs3 te fun z cs4 => z = .d (v i) ∧ cs4.take m = cs1)) ∧
      k (.cel m) (cs1 ++ [.l (((List.range items.length).filter f).map v)])) : Ev K C E cs (tLc wi g tt te vs) k := by
  refine ev_lc m fun F as H σ R w e q => h F as H σ R w e fun items ok cs1 F1 as1 H1 J ⟨hl, hz, hok, hlt, hstep, hk⟩ => q items ok cs1 F1 as1 H1 J ⟨hl.symm, hz, fun i acc cs' => cs' = cs1 ∧ acc = ((List.range i).filter f).map v, ⟨rfl, rfl⟩, fun i acc cs' hi => by rw [hi.1]; exact hok, ?_, ?_⟩
  · rintro i y acc cs' hy ⟨rfl, rfl⟩
    intro F as H σ0 σ v' Q w e r hw q
    refine hstep i y hy F as H σ0 σ v' Q w e r hw fun E' σ' hE e' hw' => q E' σ' ?_ e' hw'
    intro F as H σ Q w e z
    refine hE F as H σ Q w e fun b cs3 F' as' H' ⟨hb, h3, h4⟩ => z b cs3 F' as' H' ?_
    cases b with
    | false =>
      refine ite_f ⟨[], m, rfl, Nat.le_refl m, rfl, by rw [h3]; exact hlt, h3, ?_⟩
      rw [List.range_succ, List.filter_append, List.filter_cons_of_neg (by rw [← hb]; decide)]; simp
    | true =>
      refine ite_t fun F as H σ Q w e z => h4 rfl F as H σ Q w e fun z' cs4 v' F' as' H' ⟨hz', h5⟩ => z z' cs4 v' F' as' H' ⟨v i, hz', [], m, rfl, Nat.le_refl m, rfl, by rw [h5]; exact hlt, h5, ?_⟩
      rw [List.range_succ, List.filter_append, List.filter_cons_of_pos (by rw [← hb])]; simp
  · rintro acc cs' ⟨rfl, rfl⟩
    rw [hl]; exact hk
/-- a cut that drops what is over -/
theorem ex_midC {n : Nat} {D : AEnds} {t u : TS} (Mid : AEnv → List Cell → Prop) (h : Ex K C n E cs t { D with nx := Cm n Mid }) (q : ∀ E' cs', Mid E' cs' → Ex K C n E' cs' u D) : Ex K C n E cs (C8.tCut t u) D :=
  ex_mid (Cm n Mid) h fun E' cs' hc F as H σ Dc hn w e d => by
    refine hc.run w e (Stp.refl (n := n)) fun E1 cs1 as1 p s1 w1 e1 => ?_
    have hn' : n ≤ as.length := by rw [w.len]; exact hn
    exact q E1 cs1 p F as1 H σ Dc (by rw [← w1.len]; exact s1.len hn') w1 e1 (d.later s1)
/-! ### scripts -/
theorem ev_steps {m : Str} {sp : Sp} {X : XK} {te : TE} (hsp : ∀ a dx v H Q, H a = some (.ins C dx (putF "kept_steps" v [])) → Q v H → sp [.ref a] H Q X) (hm : m ≠ "kept_steps") (h : Ev K C E cs te fun x cs1 => IsScr x fun ds => k (.d (.tuple ds)) cs1) : Ev K C E cs (tMeth C m sp [] X te tNil) k := fun F as H σ Q w e z => by
  refine h F as H σ _ w e fun x cs1 v F1 as1 H1 ⟨ds, hx, h1⟩ s1 w1 r1 => ?_
  subst hx
  cases r1 with | scr hs =>
  obtain ⟨dx, u, h2, h3⟩ := hs
  have h2' := w1.fro _ _ h2
  exact ⟨_, dx, _, rfl, h2', by rw [lookup_putF, if_neg hm]; rfl, hsp _ dx u H1 _ h2' (z _ cs1 u F1 as1 H1 h1 s1 w1 (.d h3))⟩
end
end Y

/-! # Pure states: results with several parts -/
namespace Y
open PySem L2
section
variable {K : PySem.W.Frag} {C : Addr} {F F' H H' : Hp} {as as' : Own} {cs cs' cs1 : List Cell} {E : AEnv} {k : AV → List Cell → Prop} {x y : AV}
theorem Rt.run {r : AV} {v : V} {R : Prop} (h : Rt cs.length k r cs') (w : Wd K C F as cs H) (s : Stp as.length F as H F' as' H') (w' : Wd K C F' as' cs' H') (r' : AR K C F' as' r v)
    (q : ∀ r1 cs1 as1, k r1 cs1 → Stp as.length F as H F' as1 H' → Wd K C F' as1 cs1 H' → AR K C F' as1 r1 v → R) : R := by
  rcases h with ⟨j, h1, h2, h3, h4⟩ | ⟨j, ds, rfl, h2, h3, h4, h5⟩
  · exact q r _ _ h4 (s.cut (by rw [w.len]; exact h1)) (w'.cut fun c hc => ltC_get h3 hc) (r'.cut h2)
  · cases r' with | cel hp =>
    obtain ⟨rfl, _⟩ := w'.lst hp h2
    have lt : (as'.take cs.length).length = cs.length := by rw [List.length_take, ← w.len]; have := s.pre.len; omega
    refine q _ _ _ h5 ?_ (w'.pick h3 hp h2 h4) (.cel (r := []) (by rw [List.getElem?_append_right (Nat.le_of_eq lt), lt]; simp))
    have s1 := s.cut (m := cs.length) (by rw [w.len]; exact Nat.le_refl _)
    exact ⟨s1.f, fun i hi own ho => by
      obtain ⟨r, e⟩ := s1.a i hi own ho
      exact ⟨r, by rw [List.getElem?_append_left (List.getElem?_eq_some_iff.mp e).1]; exact e⟩, s1.fr, s1.dm, s1.nf, fun b ⟨i, own, hi, hb⟩ => by
      rcases get_snoc hi with hi | ⟨_, rfl⟩
      · exact s1.na b ⟨i, own, hi, hb⟩
      · exact s.na b ⟨j, _, hp, hb⟩⟩
/-- a result, its cells kept, all else dropped -/
def Rs (n : Nat) (k : AV → List Cell → Prop) (x : AV) (cs' : List Cell) : Prop := Rt n k x cs' ∨ ∃ js x1 cs1, Sel n js [some x1] cs1 [some x] cs' ∧ k x1 cs1
theorem body_go2 {N : List Str} {xs : List AV} {vs : List V} {t : TS} {Q : VK} {n : Nat} (E : AEnv) (hE : startE N xs = E) (hn : cs.length = n) (w : Wd K C F as cs H) (r : ARs K C F as xs vs) (hx : Ex K C n E cs t { nx := fun _ cs' => Rs n k (.d .none) cs', rt := Rs n k })
    (q : ∀ r cs' v F' as' H', k r cs' → Stp as.length F as H F' as' H' → Wd K C F' as' cs' H' → AR K C F' as' r v → Q v H') : t { nx := fun _ H' => Q .non H', rt := Q } (L2.start N vs) H := by
  subst hn; subst hE
  have key : ∀ r cs' v F' as' H', Rs cs.length k r cs' → Stp as.length F as H F' as' H' → Wd K C F' as' cs' H' → AR K C F' as' r v → Q v H' := fun r cs' v F' as' H' h s w' r' => by
    rcases h with h | ⟨js, x1, cs1, S, hk⟩
    · exact h.run w s w' r' fun r1 cs1 as1 hk s1 w1 a1 => q r1 cs1 v F' as1 H' hk s1 w1 a1
    · have e : EnvR K C F' as' [some r] [some v] := ⟨rfl, fun i x hx => by
        cases i with
        | zero => simp at hx; subst hx; exact ⟨v, rfl, r'⟩
        | succ i => simp at hx⟩
      rw [← w.len] at S
      obtain ⟨as1, s1, w1, e1⟩ := S.run w' e s
      obtain ⟨v', h1, h2⟩ := e1.get 0 x1 rfl
      cases h1
      exact q _ cs1 _ F' as1 H' hk s1 w1 h2
  exact body_ok (k := fun x cs' => Rs cs.length k x cs') w r hx key
theorem Rs.sel {n : Nat} (js : List Nat) {x1 : AV} (S : Sel n js [some x1] cs1 [some x] cs) (h : k x1 cs1) : Rs n k x cs := .inr ⟨js, x1, cs1, S, h⟩
/-- what a callee says of a tuple of two new lists -/
theorem Kt.newT {Q : VK} (q : Kt K C F as H k Q) (w : Wd K C F as cs H) (s : Same H H') {t e f : Addr} {xs ys : List V} {ds es : List PyData} (nt : H t = none) (ne : H e = none) (nf : H f = none) (hef : e ≠ f) (ht : H' t = some (.tup [.ref e, .ref f])) (he : H' e = some (.lst xs)) (hf : H' f = some (.lst ys))
    (hx : DpAll K H' xs ds) (hy : DpAll K H' ys es) (im : immAll ds = true) (im2 : immAll es = true) (h : k (.tup [.cel cs.length, .cel (cs.length + 1)]) (cs ++ [.l ds] ++ [.l es])) : Q (.ref t) H' := by
  have te : t ≠ e := fun z => by rw [z, he] at ht; cases ht
  have tf : t ≠ f := fun z => by rw [z, hf] at ht; cases ht
  obtain ⟨H1, e1⟩ : ∃ H1 : Hp, H1 = fun b => if b = e ∨ b = f then none else H' b := ⟨_, rfl⟩
  have n1 : H1 e = none := by rw [e1]; simp
  have n2 : H1 f = none := by rw [e1]; simp
  have o1 : ∀ b, b ≠ e → b ≠ f → H1 b = H' b := fun b hb hb2 => by rw [e1]; simp [hb, hb2]
  have s1 : Same H H1 := fun b o hb => by
    have h1 : b ≠ e := fun z => by rw [z, ne] at hb; cases hb
    have h2 : b ≠ f := fun z => by rw [z, nf] at hb; cases hb
    rw [o1 b h1 h2]; exact s b o hb
  have n2' : upd H1 e (.lst xs) f = none := by rw [upd_ne (Ne.symm hef)]; exact n2
  have e2 : upd (upd H1 e (.lst xs)) f (.lst ys) = H' := by
    funext b
    by_cases hb : b = f
    · subst hb; rw [upd_same, hf]
    · rw [upd_ne hb]
      by_cases hb2 : b = e
      · subst hb2; rw [upd_same, he]
      · rw [upd_ne hb2, o1 b hb2 hb]
  have t1 : Tups H' H1 := ⟨fun a zs ha => by
    have h1 : a ≠ e := fun z => by rw [z, he] at ha; cases ha
    have h2 : a ≠ f := fun z => by rw [z, hf] at ha; cases ha
    rw [o1 a h1 h2]; exact ha, fun a o zs ha => by
    have h1 : a ≠ e := fun z => by rw [z, he] at ha; cases ha
    have h2 : a ≠ f := fun z => by rw [z, hf] at ha; cases ha
    rw [o1 a h1 h2]; exact ha⟩
  obtain ⟨w1, st1⟩ := w.same s1
  have d1 := w1.immAll im (t1.dpAll im hx)
  have d2 := w1.immAll im2 (t1.dpAll im2 hy)
  obtain ⟨w2, st2⟩ := w1.newC (c := .l ds) (o := .lst xs) n1 trivial (.l upd_same d1)
  obtain ⟨w3, st3⟩ := w2.newC (c := .l es) (o := .lst ys) n2' trivial (.l upd_same d2)
  rw [← e2]
  have l1 : (as ++ [[e]]).length = cs.length + 1 := by rw [List.length_append, w.len]; rfl
  refine q _ _ _ _ _ _ h ((st1.tr st2).tr st3) w3 (.tup (vs := [.ref e, .ref f]) (SqT.of ?_) (.cons (.cel (p := e) (r := []) ?_) (.cons (.cel (p := f) (r := []) ?_) .nil)))
  · rw [absF_new nt, o1 t te tf]; exact ht
  · rw [List.getElem?_append_left (by rw [l1]; omega), ← w.len, List.getElem?_append_right (Nat.le_refl _)]; simp
  · rw [← l1, List.getElem?_append_right (Nat.le_refl _)]; simp
/-! ### data with lists in it -/
mutual
def dat2 (x : AV) (cs : List Cell) : Option PyData := match x with
  | .d d => some d
  | .cel i => match cs[i]? with
    | some (.l ds) => some (.list ds)
    | _ => none
  | .tup xs => match dat2s xs cs with
    | some ds => some (.tuple ds)
    | none => none
  | _ => none
def dat2s (xs : List AV) (cs : List Cell) : Option (List PyData) := match xs with
  | [] => some []
  | x :: xs => match dat2 x cs, dat2s xs cs with
    | some d, some ds => some (d :: ds)
    | _, _ => none
end
mutual
theorem dat2_at (w : Wd K C F as cs H) : ∀ {x : AV} {d : PyData} {v : V}, dat2 x cs = some d → AR K C F as x v → Dp K H v d
  | .d e, d, v, h, r => by simp [dat2] at h; subst h; cases r with | d r => exact w.fro.dp r
  | .cel i, d, v, h, r => datOf_at (x := .cel i) (by rw [← h]; rfl) w r
  | .tup xs, d, v, h, r => by
    simp only [dat2] at h
    cases e : dat2s xs cs with
    | none => rw [e] at h; cases h
    | some ds =>
      rw [e] at h; cases h
      cases r with | tup h1 h2 => exact .tup (w.fro.sqT h1) (dat2s_at w e h2)
  | .sub _ _, _, _, h, _ => by simp [dat2] at h
  | .scr _, _, _, h, _ => by simp [dat2] at h
  | .ty _, _, _, h, _ => by simp [dat2] at h
  | .dct, _, _, h, _ => by simp [dat2] at h
  | .raw _, _, _, h, _ => by simp [dat2] at h
  | .exn _ _ _ _, _, _, h, _ => by simp [dat2] at h
theorem dat2s_at (w : Wd K C F as cs H) : ∀ {xs : List AV} {ds : List PyData} {vs : List V}, dat2s xs cs = some ds → ARs K C F as xs vs → DpAll K H vs ds
  | [], ds, vs, h, r => by simp [dat2s] at h; subst h; cases r; exact .nil
  | x :: xs, ds, vs, h, r => by
    simp only [dat2s] at h
    cases e1 : dat2 x cs with
    | none => rw [e1] at h; simp at h
    | some d =>
      cases e2 : dat2s xs cs with
      | none => rw [e1, e2] at h; simp at h
      | some es =>
        rw [e1, e2] at h; cases h
        cases r with | cons h1 h2 => exact .cons (dat2_at w e1 h1) (dat2s_at w e2 h2)
end
/-- == of data with lists in it -/
theorem o_eqD2 {a b : PyData} (h1 : dat2 x cs = some a) (h2 : dat2 y cs = some b) (s1 : SeqAt.shaped a = true) (s2 : SeqAt.shaped b = true) (h : k (.d (.bool (PyData.eqv a b))) cs) : O2 K C (rEqD K) x y cs k := fun F as H v u Q w r1 r2 q =>
  ⟨a, b, dat2_at w h1 r1, dat2_at w h2 r2, s1, s2, q.now h w (.d (.bl _))⟩
theorem o_neD2 {a b : PyData} (h1 : dat2 x cs = some a) (h2 : dat2 y cs = some b) (s1 : SeqAt.shaped a = true) (s2 : SeqAt.shaped b = true) (h : k (.d (.bool (!PyData.eqv a b))) cs) : O2 K C (rNeD K) x y cs k := fun F as H v u Q w r1 r2 q =>
  ⟨a, b, dat2_at w h1 r1, dat2_at w h2 r2, s1, s2, q.now h w (.d (.bl _))⟩
end
end Y

/-! # Pure states: grids (lists of own lists) and dicts -/
namespace Y
open PySem L2
section
variable {K : PySem.W.Frag} {C : Addr} {F F' H H' : Hp} {as as' : Own} {cs cs' cs1 : List Cell} {E : AEnv} {k : AV → List Cell → Prop} {ta tb te tc td ty : TE} {tas tar : TA} {x y : AV}
/-! ### rows -/
theorem Wd.grid (w : Wd K C F as cs H) {i : Nat} {ix : List Nat} {rows : List (List PyData)} {p : Addr} {qs : List Addr} (hp : as[i]? = some (p :: qs)) (h : cs[i]? = some (.g ix rows)) : H p = some (.lst (rowsV qs ix)) ∧ (∀ j ∈ ix, j < rows.length) ∧ GridOk K F H qs rows := by
  cases w.ok i _ _ hp h with
  | g h1 h2 h3 => exact ⟨h1, h2, h3⟩
theorem Wd.dkt (w : Wd K C F as cs H) {i : Nat} {lk : Option (Obj × List (Key × V))} {xs : List (Key × AV)} {p : Addr} {qs : List Addr} (hp : as[i]? = some (p :: qs)) (h : cs[i]? = some (.k lk xs)) : qs = [] ∧ ∃ kvs, lkK lk kvs ∧ H p = some (lkO (lk.map Prod.fst) (.dK kvs)) ∧ kvs.map Prod.fst = xs.map Prod.fst ∧ ARs K C F as (xs.map Prod.snd) (kvs.map Prod.snd) := by
  cases w.ok i _ _ hp h with
  | k h0 h1 h2 h3 => exact ⟨rfl, _, h0, h1, h2, h3⟩
theorem Wd.drw (w : Wd K C F as cs H) {i : Nat} {lk : Option Obj} {ks : List (Key × Nat)} {rows : List (List PyData)} {p : Addr} {qs : List Addr} (hp : as[i]? = some (p :: qs)) (h : cs[i]? = some (.m lk ks rows)) : H p = some (lkO lk (.dK (rowsK qs ks))) ∧ (∀ x ∈ ks, x.2 < rows.length) ∧ GridOk K F H qs rows := by
  cases w.ok i _ _ hp h with
  | m h1 h2 h3 => exact ⟨h1, h2, h3⟩
theorem getD_get {qs : List Addr} {j : Nat} (h : j < qs.length) : qs[j]? = some (qs.getD j 0) := by
  rw [List.getD_eq_getElem?_getD, List.getElem?_eq_getElem h]; rfl
theorem row_at {i : Nat} {p : Addr} {qs : List Addr} {rows : List (List PyData)} {j : Nat} (hp : as[i]? = some (p :: qs)) (g : GridOk K F H qs rows) (h : j < rows.length) : AR K C F as (.sub i j) (.ref (qs.getD j 0)) := .sub hp (by rw [List.getElem?_cons_succ]; exact getD_get (by rw [g.len]; exact h))
/-- olds[k]: a row -/
theorem o_ixG {i : Nat} {ix : List Nat} {rows : List (List PyData)} {z : Int} {j : Nat} (h1 : cs[i]? = some (.g ix rows)) (h2 : atI ix z = some j) (h : k (.sub i j) cs) : O2 K C (rIxL K) (.cel i) (.d (.int z)) cs k := fun F as H v u Q w r1 r2 q => by
  cases r1 with | @cel _ p qs hp =>
  obtain ⟨g1, g2, g3⟩ := w.grid hp h1
  have hj : j ∈ ix := by
    unfold atI at h2
    obtain ⟨n, _, hn⟩ := Option.bind_eq_some_iff.mp h2
    exact List.mem_of_getElem? hn
  refine ⟨p, rowsV qs ix, z, .ref (qs.getD j 0), rfl, r2.int, SqL.of g1, ?_, q.now h w (row_at hp g3 (g2 j hj))⟩
  rw [rowsV, atI_map, h2]; rfl
theorem on_lenG {i : Nat} {ix : List Nat} {rows : List (List PyData)} (h1 : cs[i]? = some (.g ix rows)) (h : k (.d (.int ix.length)) cs) : On K C (rLenY K) [.cel i] cs k := fun F as H vs Q w r q => by
  cases r with | cons r r2 =>
  cases r2
  cases r with | @cel _ p qs hp =>
  obtain ⟨g1, _, _⟩ := w.grid hp h1
  exact ⟨_, ix.length, rfl, .inl ⟨_, SqL.of g1, by rw [rowsV, List.length_map]⟩, q.now h w (.d (.int _))⟩
theorem GridOk.set : ∀ {qs : List Addr} {rs : List (List PyData)} {j : Nat} {q : Addr} {vs : List V} {r : List PyData}, GridOk K F H qs rs → qs.Nodup → qs[j]? = some q → DpAll K F vs r → GridOk K F (upd H q (.lst vs)) qs (rs.set j r)
  | _, _, _, _, _, _, .nil, _, h, _ => by simp at h
  | q0 :: qs, _, 0, q, vs, r, .cons h1 h2 h3, nd, h, hr => by
    simp at h; subst h
    have n := List.nodup_cons.mp nd
    exact .cons upd_same hr (h3.mono (Same.refl F) fun b hb o ho => by
      have ne : b ≠ q0 := fun z => n.1 (by rw [← z]; exact hb)
      rw [upd_ne ne]; exact ho)
  | q0 :: qs, _, j + 1, q, vs, r, .cons h1 h2 h3, nd, h, hr => by
    have n := List.nodup_cons.mp nd
    have hq : qs[j]? = some q := by simpa using h
    have ne : q0 ≠ q := fun z => n.1 (by rw [z]; exact List.mem_of_getElem? hq)
    exact .cons (by rw [upd_ne ne]; exact h1) h2 (GridOk.set h3 n.2 hq hr)
theorem GridOk.snoc : ∀ {qs : List Addr} {rs : List (List PyData)} {q : Addr} {vs : List V} {r : List PyData}, GridOk K F H qs rs → H q = some (.lst vs) → DpAll K F vs r → GridOk K F H (qs ++ [q]) (rs ++ [r])
  | _, _, _, _, _, .nil, h, hr => .cons h hr .nil
  | _, _, _, _, _, .cons h1 h2 h3, h, hr => .cons h1 h2 (GridOk.snoc h3 h hr)
def Cell.rows : Cell → Option (List (List PyData))
  | .g _ r => some r
  | .m _ _ r => some r
  | _ => none
def Cell.setRows : Cell → List (List PyData) → Cell
  | .g ix _, r => .g ix r
  | .m lk ks _, r => .m lk ks r
  | c, _ => c
theorem Wd.setRow (w : Wd K C F as cs H) {i j : Nat} {c : Cell} {rows : List (List PyData)} {row : List PyData} {p q : Addr} {qs : List Addr} {vs : List V} (hp : as[i]? = some (p :: qs)) (hc : cs[i]? = some c) (hr : c.rows = some rows) (hq : qs[j]? = some q) (hv : DpAll K F vs row) :
    Wd K C F as (cs.set i (c.setRows (rows.set j row))) (upd H q (.lst vs)) ∧ Stp as.length F as H F as (upd H q (.lst vs)) := by
  have nd := List.nodup_cons.mp (w.nd i _ hp)
  have hqm := List.mem_of_getElem? hq
  have npq : p ≠ q := fun z => nd.1 (z ▸ hqm)
  refine w.put hp (List.mem_cons_of_mem _ hqm) trivial ?_
  cases w.ok i _ _ hp hc with
  | g h1 h2 h3 =>
    cases hr
    exact .g (by rw [upd_ne npq]; exact h1) (fun x hx => by rw [List.length_set]; exact h2 x hx) (h3.set nd.2 hq hv)
  | m h1 h2 h3 =>
    cases hr
    exact .m (by rw [upd_ne npq]; exact h1) (fun x hx => by rw [List.length_set]; exact h2 x hx) (h3.set nd.2 hq hv)
  | _ => cases hr
def IsSubG (x z y : AV) (cs : List Cell) (f : List Cell → Prop) : Prop := ∃ (i j : Nat) (c : Cell) (rows : List (List PyData)) (row : List PyData) (l : Int) (m : Nat) (d : PyData), x = .sub i j ∧ z = .d (.int l) ∧ y = .d d ∧ cs[i]? = some c ∧ c.rows = some rows ∧ rows[j]? = some row ∧ ixN row.length l = some m ∧ f (cs.set i (c.setRows (rows.set j (row.set m d))))
/-- line[z] = y, line a row -/
theorem eg_subG {n : Nat} {y : AV} {to ti : TE} {kg : AEnv → List Cell → Prop} (h : Ev K C E cs to fun x cs1 => Ev K C E cs1 ti fun z cs2 => IsSubG x z y cs2 fun cs3 => kg E cs3) :
    Eg K C n E y cs (gSub to ti rSetL) kg := fun F as H σ v Q hn w e r q => by
  refine h F as H σ _ w e fun x cs1 o F1 as1 H1 h1 s1 w1 r1 => ?_
  refine h1 F1 as1 H1 σ _ w1 (e.mono s1.f s1.pre) fun z cs2 u F2 as2 H2 ⟨i, j, c, rows, row, l, m, d, hx, hz, hy, hc, hr, hw, hj, h2⟩ s2 w2 r2 => ?_
  subst hx; subst hz; subst hy
  have r1' := r1.mono s2.f s2.pre
  have s12 := s1.tr s2
  have r' := r.mono s12.f s12.pre
  cases r1' with | @sub _ _ q0 own hp hq =>
  cases r' with | d r' =>
  have hn' : n ≤ as.length := by rw [w.len]; exact hn
  obtain ⟨p, qs, rfl⟩ : ∃ p qs, own = p :: qs := by
    cases own with
    | nil => simp at hq
    | cons p qs => exact ⟨p, qs, rfl⟩
  have hq' : qs[j]? = some q0 := by simpa using hq
  obtain ⟨vs, g1, g2⟩ : ∃ vs, H2 q0 = some (.lst vs) ∧ DpAll K F2 vs row := by
    cases w2.ok i _ _ hp hc with
    | g h1 h2 h3 => cases hr; exact h3.get hq' hw
    | m h1 h2 h3 => cases hr; exact h3.get hq' hw
    | _ => cases hr
  obtain ⟨w3, s3⟩ := w2.setRow (vs := vs.set m v) hp hc hr hq' (DpAll.setD m g2 r')
  refine ⟨_, vs, l, m, rfl, r2.int, g1, by rw [g2.length]; exact hj, ?_⟩
  exact q _ _ F2 as2 _ σ h2 ((s12.weak hn').trans (s3.weak (Nat.le_trans hn' s12.pre.len))) w3 ((e.mono s12.f s12.pre))
/-! ### a row more -/
theorem set_get {α : Type} {l : List α} {i j : Nat} {a x : α} (h : (l.set i a)[j]? = some x) : (j = i ∧ x = a ∧ i < l.length) ∨ (j ≠ i ∧ l[j]? = some x) := by
  rw [List.getElem?_set] at h
  by_cases e : i = j
  · subst e
    rw [if_pos rfl] at h
    split at h
    · exact .inl ⟨rfl, (Option.some.inj h).symm, by assumption⟩
    · cases h
  · rw [if_neg e] at h
    exact .inr ⟨fun z => e z.symm, h⟩
theorem Wd.grow (w : Wd K C F as cs H) {i : Nat} {p q : Addr} {qs : List Addr} {vs : List V} {o : HO} {c : Cell} (hp : as[i]? = some (p :: qs)) (hq : H q = none) (ho : NoTup o) (hc : CellOk K C F (as.set i (p :: (qs ++ [q]))) (upd (upd H q (.lst vs)) p o) (p :: (qs ++ [q])) c) :
    Wd K C F (as.set i (p :: (qs ++ [q]))) (cs.set i c) (upd (upd H q (.lst vs)) p o) ∧ Stp as.length F as H F (as.set i (p :: (qs ++ [q]))) (upd (upd H q (.lst vs)) p o) := by
  have hi := (List.getElem?_eq_some_iff.mp hp).1
  have hpd := w.dis i _ hp p (by simp)
  have npq : p ≠ q := fun z => hpd.2 (z ▸ hq)
  have hF : F q = none := w.fro.free hq
  have pre : Pre as (as.set i (p :: (qs ++ [q]))) := fun j own h => by
    by_cases e : j = i
    · subst e
      rw [hp] at h; cases h
      exact ⟨[q], by rw [List.getElem?_set, if_pos rfl, if_pos hi]; rfl⟩
    · exact ⟨[], by rw [List.getElem?_set, if_neg (fun z => e z.symm), List.append_nil]; exact h⟩
  have ne : ∀ {b : Addr}, b ≠ p → b ≠ q → upd (upd H q (.lst vs)) p o b = H b := fun h1 h2 => by rw [upd_ne h1, upd_ne h2]
  have keepB : ∀ {b : Addr} {u : HO}, H b = some u → b ≠ p → upd (upd H q (.lst vs)) p o b = some u := fun hb hn => by rw [ne hn (fun z => by rw [z, hq] at hb; cases hb)]; exact hb
  have mem : ∀ {b : Addr}, b ∈ p :: (qs ++ [q]) → b ∈ p :: qs ∨ b = q := fun h => by
    simp only [List.mem_cons, List.mem_append, List.not_mem_nil, or_false] at h ⊢
    rcases h with h | h | h
    · exact .inl (.inl h)
    · exact .inl (.inr h)
    · exact .inr h
  have there : ∀ {b : Addr}, H b ≠ none → upd (upd H q (.lst vs)) p o b ≠ none := fun {b} hb => by
    by_cases e : b = p
    · subst e; rw [upd_same]; simp
    · rw [upd_ne e]
      by_cases e2 : b = q
      · subst e2; rw [upd_same]; simp
      · rw [upd_ne e2]; exact hb
  refine ⟨⟨fun b u h => ?_, fun j own h b hb => ?_, fun j l own own' h h' hjl b hb hb' => ?_, fun j own h => ?_, by rw [List.length_set, List.length_set, w.len], fun j own d h hd => ?_, fun j own h b hb u hu => ?_, fun b u h n => ?_⟩, ⟨Same.refl F, fun j _ own h => pre j own h, fun b u h n => ?_, fun b h => ?_, fun b u h => .inl h, fun b ⟨j, own, h, hb⟩ => ?_⟩⟩
  · exact keepB (w.fro b u h) (fun z => by rw [z, hpd.1] at h; cases h)
  · rcases set_get h with ⟨rfl, rfl, _⟩ | ⟨hj, h⟩
    · rcases mem hb with hb | rfl
      · exact ⟨(w.dis _ _ hp b hb).1, there (w.dis _ _ hp b hb).2⟩
      · exact ⟨hF, by rw [upd_ne (Ne.symm npq), upd_same]; simp⟩
    · exact ⟨(w.dis j own h b hb).1, there (w.dis j own h b hb).2⟩
  · rcases set_get h with ⟨e1, e2, _⟩ | ⟨hj, g⟩
    · rcases set_get h' with ⟨e3, e4, _⟩ | ⟨hl, g'⟩
      · exact hjl (e1.trans e3.symm)
      · rw [e2] at hb
        rcases mem hb with hb | hb
        · exact w.sep _ _ _ _ hp g' (fun z => hl z.symm) b hb hb'
        · exact (w.dis _ _ g' b hb').2 (by rw [hb]; exact hq)
    · rcases set_get h' with ⟨e3, e4, _⟩ | ⟨hl, g'⟩
      · rw [e4] at hb'
        rcases mem hb' with hb' | hb'
        · exact w.sep _ _ _ _ g hp hj b hb hb'
        · exact (w.dis _ _ g b hb).2 (by rw [hb']; exact hq)
      · exact w.sep _ _ _ _ g g' hjl b hb hb'
  · rcases set_get h with ⟨rfl, rfl, _⟩ | ⟨hj, h⟩
    · have nd := w.nd _ _ hp
      show ((p :: qs) ++ [q]).Nodup
      rw [List.nodup_append]
      exact ⟨nd, by simp, fun a ha b hb e => by
        rw [List.mem_singleton.mp hb] at e
        exact (w.dis _ _ hp a ha).2 (e ▸ hq)⟩
    · exact w.nd _ _ h
  · rcases set_get h with ⟨rfl, rfl, _⟩ | ⟨hj, h⟩
    · rcases set_get hd with ⟨_, rfl, _⟩ | ⟨hl, _⟩
      · exact hc
      · exact absurd rfl hl
    · rcases set_get hd with ⟨rfl, _, _⟩ | ⟨hl, hd⟩
      · exact absurd rfl hj
      · exact (w.ok j own d h hd).mono (Same.refl F) pre fun b hb u hu => keepB hu (fun z => w.sep _ _ _ _ h hp hj b hb (by rw [z]; simp))
  · by_cases e : b = p
    · subst e; rw [upd_same] at hu; cases hu; exact ho
    · rw [upd_ne e] at hu
      by_cases e2 : b = q
      · subst e2; rw [upd_same] at hu; cases hu; exact trivial
      · rw [upd_ne e2] at hu
        rcases set_get h with ⟨rfl, rfl, _⟩ | ⟨hj, h⟩
        · rcases mem hb with hb | rfl
          · exact w.mu _ _ hp b hb u hu
          · exact absurd rfl e2
        · exact w.mu _ _ h b hb u hu
  · by_cases e : b = p
    · subst e; rw [upd_same] at h; cases h; exact absurd ho n
    · rw [upd_ne e] at h
      by_cases e2 : b = q
      · subst e2; rw [upd_same] at h; cases h; exact absurd trivial n
      · rw [upd_ne e2] at h; exact w.tp b u h n
  · exact keepB h (fun z => n ⟨i, _, hp, by rw [z]; simp⟩)
  · by_cases e : b = p
    · subst e; rw [upd_same] at h; cases h
    · rw [upd_ne e] at h
      by_cases e2 : b = q
      · subst e2; exact hq
      · rw [upd_ne e2] at h; exact h
  · rcases set_get h with ⟨rfl, rfl, _⟩ | ⟨hj, h⟩
    · rcases mem hb with hb | rfl
      · exact .inl ⟨_, _, hp, hb⟩
      · exact .inr hq
    · exact .inl ⟨j, own, h, hb⟩
end
end Y

/-! # Pure states: rows put in, dicts -/
namespace Y
open PySem L2
section
variable {K : PySem.W.Frag} {C : Addr} {F F' H H' : Hp} {as as' : Own} {cs cs' cs1 : List Cell} {E : AEnv} {k : AV → List Cell → Prop} {ta tb te tc td ty : TE} {tas tar : TA} {x y : AV}
theorem getD_snoc {qs : List Addr} {q : Addr} {j : Nat} (h : j < qs.length) : (qs ++ [q]).getD j 0 = qs.getD j 0 := by
  rw [List.getD_eq_getElem?_getD, List.getD_eq_getElem?_getD, List.getElem?_append_left h]
theorem getD_last {qs : List Addr} {q : Addr} : (qs ++ [q]).getD qs.length 0 = q := by
  rw [List.getD_eq_getElem?_getD, List.getElem?_append_right (Nat.le_refl _)]; simp
theorem rowsV_snoc {qs : List Addr} {q : Addr} {ix : List Nat} (h : ∀ j ∈ ix, j < qs.length) : rowsV (qs ++ [q]) (ix ++ [qs.length]) = rowsV qs ix ++ [.ref q] := by
  unfold rowsV
  rw [List.map_append]
  congr 1
  · exact List.map_congr_left fun j hj => by rw [getD_snoc (h j hj)]
  · simp
theorem GridOk.put {p q : Addr} {qs : List Addr} {rs : List (List PyData)} {vs : List V} {r : List PyData} {o : HO} (g : GridOk K F H qs rs) (hp : p ∉ qs) (hq : H q = none) (npq : p ≠ q) (hr : DpAll K F vs r) : GridOk K F (upd (upd H q (.lst vs)) p o) (qs ++ [q]) (rs ++ [r]) :=
  GridOk.snoc (g.mono (Same.refl F) fun b hb u hu => by
    have n1 : b ≠ p := fun z => hp (by rw [← z]; exact hb)
    have n2 : b ≠ q := fun z => by rw [z, hq] at hu; cases hu
    rw [upd_ne n1, upd_ne n2]; exact hu) (by rw [upd_ne (Ne.symm npq), upd_same]) hr
/-- olds.append([..]) -/
theorem ev_appRow (h : Ev K C E cs te fun x cs1 => TyA K C "list" x cs1 ∧ Evs K C E cs1 tas fun xs cs2 => ∃ (i : Nat) (ix : List Nat) (rows : List (List PyData)) (ds : List PyData), x = .cel i ∧ cs2[i]? = some (.g ix rows) ∧ unD xs = some ds ∧ ds.length ≤ 100000 ∧ ix.length < 100000 ∧
    k (.d .none) (cs2.set i (.g (ix ++ [rows.length]) (rows ++ [ds])))) : Ev K C E cs (tBM K "list" rAppend te (tCons (tLst tas) tNil)) k := fun F as H σ Q w e z => by
  refine h F as H σ _ w e fun x cs1 v F1 as1 H1 ⟨ht, h1⟩ s1 w1 r1 => ⟨ht F1 as1 H1 v w1 r1, ?_⟩
  refine h1 F1 as1 H1 σ _ w1 (e.mono s1.f s1.pre) fun xs cs2 vs F2 as2 H2 ⟨i, ix, rows, ds, hx, hc, hd, hl, hl2, hk⟩ s2 w2 r2 => ?_
  subst hx
  have r1' := r1.mono s2.f s2.pre
  cases r1' with | @cel _ p qs hp =>
  obtain ⟨g1, g2, g3⟩ := w2.grid hp hc
  have rd := ARs.toData ((unD_eq hd) ▸ r2)
  refine ⟨line_of (by rw [← r2.length, unD_eq hd, List.length_map]; exact hl), fun q hq => ?_⟩
  have hpd := w2.dis i _ hp p (by simp)
  have npq : p ≠ q := fun z => hpd.2 (z ▸ hq)
  have nd := List.nodup_cons.mp (w2.nd i _ hp)
  have lq := g3.len
  have g2' : ∀ j ∈ ix, j < qs.length := fun j hj => by rw [lq]; exact g2 j hj
  refine ⟨p, rowsV qs ix, .ref q, rfl, rfl, by rw [upd_ne npq]; exact g1, line_lt (by rw [rowsV, List.length_map]; exact hl2), ?_⟩
  obtain ⟨w3, s3⟩ := w2.grow (vs := vs) (o := .lst (rowsV qs ix ++ [.ref q])) (c := .g (ix ++ [rows.length]) (rows ++ [ds])) hp hq trivial
    (.g (by rw [upd_same, ← lq, rowsV_snoc g2']) (fun j hj => by
      rw [List.length_append]
      rcases List.mem_append.mp hj with hj | hj
      · exact Nat.lt_of_lt_of_le (g2 j hj) (Nat.le_add_right _ _)
      · rw [List.mem_singleton.mp hj]; exact Nat.lt_succ_self _) (g3.put nd.1 hq npq rd))
  exact z _ _ _ F2 _ _ hk ((s1.tr s2).tr s3) w3 (.d .non)
/-! ### keys -/
def keyA : AV → Option Key
  | .d (.int i) => some (.inl i)
  | .d (.str s) => some (.inr s)
  | _ => none
theorem keyA_at {κ : Key} {v : V} (h : keyA x = some κ) (r : AR K C F as x v) : v = kV κ := by
  cases x with
  | d d => cases d with
    | int i => simp [keyA] at h; subst h; exact r.int
    | str s => simp [keyA] at h; subst h; exact r.str
    | _ => simp [keyA] at h
  | _ => simp [keyA] at h
def lookG {β : Type} (xs : List (Key × β)) (κ : Key) : Option β := (xs.find? fun kv => decide (kv.1 = κ)).map (·.2)
def putG {β : Type} (xs : List (Key × β)) (κ : Key) (v : β) : List (Key × β) := if (xs.any fun kv => decide (kv.1 = κ)) = true then xs.map (fun kv => if kv.1 = κ then (kv.1, v) else kv) else xs ++ [(κ, v)]
def dropG {β : Type} (xs : List (Key × β)) (κ : Key) : List (Key × β) := xs.filter fun kv => decide (kv.1 ≠ κ)
theorem look_rows {qs : List Addr} {κ : Key} : ∀ {ks : List (Key × Nat)}, valV (rowsK qs ks) κ = (lookG ks κ).map fun j => V.ref (qs.getD j 0)
  | [] => rfl
  | (a, j) :: ks => by
    have ih := look_rows (qs := qs) (κ := κ) (ks := ks)
    unfold valV lookG rowsK at ih ⊢
    rw [List.map_cons, List.find?_cons, List.find?_cons]
    by_cases c : a = κ
    · simp [c]
    · simp only [c, decide_false]; exact ih
theorem look_avs {κ : Key} : ∀ {xs : List (Key × AV)} {kvs : List (Key × V)}, kvs.map Prod.fst = xs.map Prod.fst → ARs K C F as (xs.map Prod.snd) (kvs.map Prod.snd) →
    (lookG xs κ = none → valV kvs κ = none) ∧ ∀ z, lookG xs κ = some z → ∃ v, valV kvs κ = some v ∧ AR K C F as z v
  | [], [], _, _ => ⟨fun _ => rfl, fun z h => by simp [lookG] at h⟩
  | [], _ :: _, h, _ => by simp at h
  | _ :: _, [], h, _ => by simp at h
  | (a, x) :: xs, (b, v) :: kvs, h, r => by
    simp only [List.map_cons, List.cons.injEq] at h
    obtain ⟨h1, h2⟩ := h
    cases r with | cons r1 r2 =>
    obtain ⟨i1, i2⟩ := look_avs (κ := κ) h2 r2
    subst h1
    unfold lookG valV at i1 i2 ⊢
    rw [List.find?_cons, List.find?_cons]
    by_cases c : b = κ
    · simp only [c, decide_true, Option.map_some]
      exact ⟨fun z => by simp at z, fun z hz => ⟨v, rfl, by cases hz; exact r1⟩⟩
    · simp only [c, decide_false]
      exact ⟨i1, i2⟩
theorem lookG_mem {β : Type} {ks : List (Key × β)} {κ : Key} {j : β} (h : lookG ks κ = some j) : (κ, j) ∈ ks := by
  unfold lookG at h
  obtain ⟨a, h1, h2⟩ := Option.map_eq_some_iff.mp h
  have h3 := List.mem_of_find?_eq_some h1
  have h4 := List.find?_some h1
  have h5 : a.1 = κ := of_decide_eq_true h4
  rw [← h5, ← h2]; exact h3
/-- the keys of a dict -/
def keysOf (x : AV) (cs : List Cell) : Option (List Key) := match x with
  | .cel i => match cs[i]? with
    | some (.k _ xs) => some (xs.map Prod.fst)
    | some (.m _ ks _) => some (ks.map Prod.fst)
    | _ => none
  | _ => none
theorem rd_lk {p : Addr} {lk : Option Obj} {u : HO} (h : H p = some (lkO lk u)) : Rd H p u := by
  cases lk with
  | none => exact .inl h
  | some o => exact .inr ⟨o, h⟩
theorem rowsK_fst {qs : List Addr} {ks : List (Key × Nat)} : (rowsK qs ks).map Prod.fst = ks.map Prod.fst := by simp [rowsK]
theorem keysOf_at {ls : List Key} {v : V} (h : keysOf x cs = some ls) (w : Wd K C F as cs H) (r : AR K C F as x v) : ∃ p kvs, v = .ref p ∧ Rd H p (.dK kvs) ∧ kvs.map Prod.fst = ls := by
  cases x with
  | cel i =>
    cases r with | @cel _ p qs hp =>
    simp only [keysOf] at h
    cases e : cs[i]? with
    | none => rw [e] at h; cases h
    | some c =>
      rw [e] at h
      cases c with
      | k lk xs =>
        simp at h
        obtain ⟨_, kvs, _, h1, h2, _⟩ := w.dkt hp e
        exact ⟨p, kvs, rfl, rd_lk h1, h2.trans h⟩
      | m lk ks rows =>
        simp at h
        obtain ⟨h1, _, _⟩ := w.drw hp e
        exact ⟨p, _, rfl, rd_lk h1, rowsK_fst.trans h⟩
      | _ => simp at h
  | _ => simp [keysOf] at h
def hasK (ls : List Key) (κ : Key) : Bool := ls.any fun a => decide (a = κ)
theorem val_mem {kvs : List (Key × V)} {κ : Key} : (valV kvs κ).isSome = hasK (kvs.map Prod.fst) κ := by
  rw [← valV_any, hasK, List.any_map]; rfl
/-- key in d -/
theorem ev_din (h : Ev K C E cs ty fun y cs1 => Ev K C E cs1 td fun x cs2 => ∃ κ ls, keyA y = some κ ∧ keysOf x cs2 = some ls ∧ k (.d (.bool (hasK ls κ))) cs2) : Ev K C E cs (tDIn ty td) k := fun F as H σ Q w e z => by
  refine h F as H σ _ w e fun y cs1 v F1 as1 H1 h1 s1 w1 r1 => ?_
  refine h1 F1 as1 H1 σ _ w1 (e.mono s1.f s1.pre) fun x cs2 u F2 as2 H2 ⟨κ, ls, hy, hx, hk⟩ s2 w2 r2 => ?_
  obtain ⟨p, kvs, rfl, hr, rfl⟩ := keysOf_at hx w2 r2
  obtain rfl := keyA_at hy r1
  refine ⟨p, _, rfl, .inl ⟨kvs, κ, hr, rfl, rfl⟩, ?_⟩
  rw [val_mem]
  exact z _ cs2 _ F2 as2 H2 hk (s1.tr s2) w2 (.d (.bl _))
theorem ev_dnin (h : Ev K C E cs ty fun y cs1 => Ev K C E cs1 td fun x cs2 => ∃ κ ls, keyA y = some κ ∧ keysOf x cs2 = some ls ∧ k (.d (.bool (!hasK ls κ))) cs2) : Ev K C E cs (tDNotIn ty td) k := fun F as H σ Q w e z => by
  refine h F as H σ _ w e fun y cs1 v F1 as1 H1 h1 s1 w1 r1 => ?_
  refine h1 F1 as1 H1 σ _ w1 (e.mono s1.f s1.pre) fun x cs2 u F2 as2 H2 ⟨κ, ls, hy, hx, hk⟩ s2 w2 r2 => ?_
  obtain ⟨p, kvs, rfl, hr, rfl⟩ := keysOf_at hx w2 r2
  obtain rfl := keyA_at hy r1
  refine ⟨p, _, rfl, .inl ⟨kvs, κ, hr, rfl, rfl⟩, ?_⟩
  rw [val_mem]
  exact z _ cs2 _ F2 as2 H2 hk (s1.tr s2) w2 (.d (.bl _))
/-- d[key], the values named -/
theorem ev_dgetK (h : Ev K C E cs td fun x cs1 => Ev K C E cs1 ty fun y cs2 => ∃ i lk xs κ z, x = .cel i ∧ cs2[i]? = some (.k lk xs) ∧ keyA y = some κ ∧ lookG xs κ = some z ∧ k z cs2) : Ev K C E cs (tDGet td ty) k := fun F as H σ Q w e q => by
  refine h F as H σ _ w e fun x cs1 v F1 as1 H1 h1 s1 w1 r1 => ?_
  refine h1 F1 as1 H1 σ _ w1 (e.mono s1.f s1.pre) fun y cs2 u F2 as2 H2 ⟨i, lk, xs, κ, z, hx, hc, hy, hz, hk⟩ s2 w2 r2 => ?_
  subst hx
  have r1' := r1.mono s2.f s2.pre
  cases r1' with | @cel _ p qs hp =>
  obtain ⟨_, kvs, _, g1, g2, g3⟩ := w2.dkt hp hc
  obtain rfl := keyA_at hy r2
  obtain ⟨v, v1, v2⟩ := (look_avs (κ := κ) g2 g3).2 z hz
  exact ⟨p, v, rfl, .inl ⟨kvs, κ, rd_lk g1, rfl, v1.symm⟩, q _ cs2 _ F2 as2 H2 hk (s1.tr s2) w2 v2⟩
/-- d[key], a row -/
theorem ev_dgetM (h : Ev K C E cs td fun x cs1 => Ev K C E cs1 ty fun y cs2 => ∃ i lk ks rows κ j, x = .cel i ∧ cs2[i]? = some (.m lk ks rows) ∧ keyA y = some κ ∧ lookG ks κ = some j ∧ k (.sub i j) cs2) : Ev K C E cs (tDGet td ty) k := fun F as H σ Q w e q => by
  refine h F as H σ _ w e fun x cs1 v F1 as1 H1 h1 s1 w1 r1 => ?_
  refine h1 F1 as1 H1 σ _ w1 (e.mono s1.f s1.pre) fun y cs2 u F2 as2 H2 ⟨i, lk, ks, rows, κ, j, hx, hc, hy, hz, hk⟩ s2 w2 r2 => ?_
  subst hx
  have r1' := r1.mono s2.f s2.pre
  cases r1' with | @cel _ p qs hp =>
  obtain ⟨g1, g2, g3⟩ := w2.drw hp hc
  obtain rfl := keyA_at hy r2
  refine ⟨p, .ref (qs.getD j 0), rfl, .inl ⟨_, κ, rd_lk g1, rfl, by rw [look_rows, hz]; rfl⟩, q _ cs2 _ F2 as2 H2 hk (s1.tr s2) w2 (row_at hp g3 (g2 (κ, j) (lookG_mem hz)))⟩
/-- {} -/
theorem ev_dnewK (h : k (.cel cs.length) (cs ++ [.k none []])) : Ev K C E cs tDNewK k := fun F as H σ Q w e z p hp => Kt.cell (fun a b c _ _ _ g t => z a b c _ _ _ g t) w hp trivial (.k (lk := none) (kvs := []) trivial upd_same rfl .nil) h
theorem ev_dnewM (h : k (.cel cs.length) (cs ++ [.m none [] []])) : Ev K C E cs tDNewK k := fun F as H σ Q w e z p hp => Kt.cell (fun a b c _ _ _ g t => z a b c _ _ _ g t) w hp trivial (.m (qs := []) upd_same (fun x hx => absurd hx List.not_mem_nil) .nil) h
end
end Y

/-! # Pure states: dicts written, locked, walked -/
namespace Y
open PySem L2
section
variable {K : PySem.W.Frag} {C : Addr} {F F' H H' : Hp} {as as' : Own} {cs cs' cs1 : List Cell} {E : AEnv} {k : AV → List Cell → Prop} {ta tb te tc td ty tv : TE} {tas tar : TA} {x y : AV} {n : Nat} {D : AEnds}
theorem any_fst {β : Type} {kvs : List (Key × β)} {κ : Key} : (kvs.any fun kv => decide (kv.1 = κ)) = hasK (kvs.map Prod.fst) κ := by
  rw [hasK, List.any_map]; rfl
theorem put_avs {κ : Key} {v : V} (r : AR K C F as x v) : ∀ {xs : List (Key × AV)} {kvs : List (Key × V)}, kvs.map Prod.fst = xs.map Prod.fst → ARs K C F as (xs.map Prod.snd) (kvs.map Prod.snd) →
    (putK kvs κ v).map Prod.fst = (putG xs κ x).map Prod.fst ∧ ARs K C F as ((putG xs κ x).map Prod.snd) ((putK kvs κ v).map Prod.snd) := by
  intro xs kvs h1 h2
  unfold putK putG
  rw [any_fst, any_fst, h1]
  cases hasK (xs.map Prod.fst) κ with
  | true =>
    rw [if_pos rfl, if_pos rfl]
    induction xs generalizing kvs with
    | nil =>
      cases kvs with
      | nil => exact ⟨rfl, .nil⟩
      | cons a kvs => simp at h1
    | cons a xs ih =>
      cases kvs with
      | nil => simp at h1
      | cons b kvs =>
        simp only [List.map_cons, List.cons.injEq] at h1
        cases h2 with | cons r1 r2 =>
        obtain ⟨i1, i2⟩ := ih h1.2 r2
        simp only [List.map_cons]
        by_cases c : a.1 = κ
        · rw [if_pos c, if_pos (h1.1.trans c)]
          exact ⟨by rw [i1, h1.1], .cons r i2⟩
        · rw [if_neg c, if_neg (by rw [h1.1]; exact c)]
          exact ⟨by rw [i1, h1.1], .cons r1 i2⟩
  | false =>
    rw [if_neg (by decide), if_neg (by decide), List.map_append, List.map_append, List.map_append, List.map_append, h1]
    exact ⟨rfl, h2.append (.cons r .nil)⟩
/-- d[key] = value, the values named -/
theorem ex_dputK (h : Ev K C E cs tv fun z cs1 => Ev K C E cs1 td fun x cs2 => Ev K C E cs2 ty fun y cs3 => ∃ i xs κ, x = .cel i ∧ cs3[i]? = some (.k none xs) ∧ keyA y = some κ ∧ xs.length < 100000 ∧ D.nx E (cs3.set i (.k none (putG xs κ z)))) : Ex K C n E cs (sDPut td ty tv) D := fun F as H σ Dc hn w e d => by
  refine h F as H σ _ w e fun z cs1 v F1 as1 H1 h1 s1 w1 r1 => ?_
  refine h1 F1 as1 H1 σ _ w1 (e.mono s1.f s1.pre) fun x cs2 u F2 as2 H2 h2 s2 w2 r2 => ?_
  have s12 := s1.tr s2
  refine h2 F2 as2 H2 σ _ w2 (e.mono s12.f s12.pre) fun y cs3 t F3 as3 H3 ⟨i, xs, κ, hx, hc, hy, hl, hk⟩ s3 w3 r3 => ?_
  subst hx
  have r2' := r2.mono s3.f s3.pre
  have s23 := s2.tr s3
  have r1' := r1.mono s23.f s23.pre
  cases r2' with | @cel _ p qs hp =>
  obtain ⟨rfl, kvs, _, g1, g2, g3⟩ := w3.dkt hp hc
  obtain rfl := keyA_at hy r3
  obtain ⟨p1, p2⟩ := put_avs (κ := κ) r1' g2 g3
  obtain ⟨w4, s4⟩ := w3.put (c := .k none (putG xs κ z)) (o := .dK (putK kvs κ v)) hp (by simp) trivial (.k (lk := none) trivial upd_same p1 p2)
  refine ⟨p, _, rfl, DPut.k g1 (line_lt (by rw [← List.length_map (f := Prod.fst), g2, List.length_map]; exact hl)), ?_⟩
  have sa := (s12.tr s3).tr s4
  exact d.nx E _ F3 as3 _ σ hk (sa.weak (by rw [w.len]; exact hn)) w4 (e.mono sa.f sa.pre)
theorem rowsK_put {qs : List Addr} {q : Addr} {ks : List (Key × Nat)} {κ : Key} (h : ∀ x ∈ ks, x.2 < qs.length) : rowsK (qs ++ [q]) (putG ks κ qs.length) = putK (rowsK qs ks) κ (.ref q) := by
  unfold putG putK
  rw [any_fst, any_fst, rowsK_fst]
  cases hasK (ks.map Prod.fst) κ with
  | true =>
    rw [if_pos rfl, if_pos rfl, rowsK, rowsK, List.map_map, List.map_map]
    refine List.map_congr_left fun a ha => ?_
    simp only [Function.comp]
    by_cases c : a.1 = κ
    · rw [if_pos c, if_pos c, getD_last]
    · rw [if_neg c, if_neg c, getD_snoc (h a ha)]
  | false =>
    rw [if_neg (by decide), if_neg (by decide), rowsK, List.map_append]
    congr 1
    · exact List.map_congr_left fun a ha => by rw [getD_snoc (h a ha)]
    · simp
/-- an expression that is a key and changes nothing -/
def PureK (K : PySem.W.Frag) (C : Addr) (E : AEnv) (ty : TE) (κ : Key) : Prop := ∀ (F : Hp) (as : Own) (σ : St) (H : Hp) (Q : VK), EnvR K C F as E σ → Q (kV κ) H → ty σ H Q
theorem pureK_var {j : Nat} {y : AV} {κ : Key} (h : E[j]? = some (some y)) (hk : keyA y = some κ) : PureK K C E (tVar j) κ := fun F as σ H Q e q => by
  obtain ⟨v, g, r⟩ := e.get j _ h
  obtain rfl := keyA_at hk r
  exact ⟨_, g, q⟩
theorem pureK_add {j : Nat} {a c : Int} (h : E[j]? = some (some (.d (.int a)))) : PureK K C E (tOp (rI0 fun i j => .int (i + j)) (tVar j) (tC (.int c))) (.inl (a + c)) := fun F as σ H Q e q => by
  obtain ⟨v, g, r⟩ := e.get j _ h
  have hv := r.int
  exact ⟨_, g, a, c, hv, rfl, q⟩
/-- d[key] = [..]: d is a name, the key changes nothing -/
theorem ex_dputRow {i : Nat} (h : Evs K C E cs tas fun xs cs2 => ∃ (a : Nat) (ks : List (Key × Nat)) (rows : List (List PyData)) (ds : List PyData) (κ : Key), E[i]? = some (some (.cel a)) ∧ PureK K C E ty κ ∧ cs2[a]? = some (.m none ks rows) ∧ unD xs = some ds ∧ ds.length ≤ 100000 ∧ ks.length < 100000 ∧
    D.nx E (cs2.set a (.m none (putG ks κ rows.length) (rows ++ [ds])))) : Ex K C n E cs (sDPut (tVar i) ty (tLst tas)) D := fun F as H σ Dc hn w e d => by
  refine h F as H σ _ w e fun xs cs2 vs F2 as2 H2 ⟨a, ks, rows, ds, κ, hi, hpk, hc, hd, hl, hl2, hk⟩ s2 w2 r2 => ?_
  have e2 := e.mono s2.f s2.pre
  obtain ⟨v1, g1, r1⟩ := e2.get i _ hi
  cases r1 with | @cel _ p qs hp =>
  obtain ⟨m1, m2, m3⟩ := w2.drw hp hc
  have rd := ARs.toData ((unD_eq hd) ▸ r2)
  refine ⟨line_of (by rw [← r2.length, unD_eq hd, List.length_map]; exact hl), fun q hq => ⟨_, g1, hpk _ _ _ _ _ e2 ⟨p, upd (upd H2 q (.lst vs)) p (.dK (putK (rowsK qs ks) κ (.ref q))), rfl, ?_⟩⟩⟩
  have hpd := w2.dis a _ hp p (by simp)
  have npq : p ≠ q := fun z => hpd.2 (z ▸ hq)
  have nd := List.nodup_cons.mp (w2.nd a _ hp)
  have lq := m3.len
  have m2' : ∀ x ∈ ks, x.2 < qs.length := fun x hx => by rw [lq]; exact m2 x hx
  have lput : ∀ x ∈ putG ks κ rows.length, x.2 < (rows ++ [ds]).length := fun x hx => by
    rw [List.length_append]
    unfold putG at hx
    split at hx
    · obtain ⟨b, hb, rfl⟩ := List.mem_map.mp hx
      split
      · exact Nat.lt_succ_self _
      · exact Nat.lt_of_lt_of_le (m2 b hb) (Nat.le_add_right _ _)
    · rcases List.mem_append.mp hx with hx | hx
      · exact Nat.lt_of_lt_of_le (m2 x hx) (Nat.le_add_right _ _)
      · rw [List.mem_singleton.mp hx]; exact Nat.lt_succ_self _
  obtain ⟨w3, s3⟩ := w2.grow (vs := vs) (o := .dK (putK (rowsK qs ks) κ (.ref q))) (c := .m none (putG ks κ rows.length) (rows ++ [ds])) hp hq trivial
    (.m (lk := none) (by rw [upd_same, ← lq, rowsK_put m2']; rfl) lput (m3.put nd.1 hq npq rd))
  have mm : H2 p = some (.dK (rowsK qs ks)) := m1
  refine ⟨DPut.k (by rw [upd_ne npq]; exact mm) (line_lt (by rw [rowsK, List.length_map]; exact hl2)), ?_⟩
  have sa := s2.tr s3
  exact d.nx E _ F2 _ _ σ hk (sa.weak (by rw [w.len]; exact hn)) w3 (e.mono sa.f sa.pre)
theorem drop_rows {qs : List Addr} {ks : List (Key × Nat)} {κ : Key} : dropK (rowsK qs ks) κ = rowsK qs (dropG ks κ) := by
  unfold dropK dropG rowsK
  rw [List.filter_map]; rfl
/-- d.pop(key), a row -/
theorem ev_dpopM (h : Ev K C E cs td fun x cs1 => (∃ ls, keysOf x cs1 = some ls) ∧ Ev K C E cs1 ty fun y cs2 => ∃ i ks rows κ j, x = .cel i ∧ cs2[i]? = some (.m none ks rows) ∧ keyA y = some κ ∧ lookG ks κ = some j ∧ k (.sub i j) (cs2.set i (.m none (dropG ks κ) rows))) : Ev K C E cs (tDPop1 td ty) k := fun F as H σ Q w e q => by
  refine h F as H σ _ w e fun x cs1 v F1 as1 H1 ⟨⟨ls, hls⟩, h1⟩ s1 w1 r1 => ?_
  obtain ⟨p0, kv0, rfl, hr0, _⟩ := keysOf_at hls w1 r1
  refine ⟨p0, rfl, .inl ⟨kv0, hr0⟩, ?_⟩
  refine h1 F1 as1 H1 σ _ w1 (e.mono s1.f s1.pre) fun y cs2 u F2 as2 H2 ⟨i, ks, rows, κ, j, hx, hc, hy, hz, hk⟩ s2 w2 r2 => ?_
  subst hx
  have r1' := r1.mono s2.f s2.pre
  cases r1' with | @cel _ p qs hp =>
  obtain ⟨g1, g2, g3⟩ := w2.drw hp hc
  obtain rfl := keyA_at hy r2
  have g1' : H2 p0 = some (.dK (rowsK qs ks)) := g1
  have nd := List.nodup_cons.mp (w2.nd i _ hp)
  obtain ⟨w3, s3⟩ := w2.put (p := p0) (c := .m none (dropG ks κ) rows) (o := .dK (dropK (rowsK qs ks) κ)) hp (by simp) trivial (.m (lk := none) (by rw [upd_same, drop_rows]; rfl) (fun x hx => g2 x ((List.mem_filter.mp hx).1)) (g3.mono (Same.refl F2) fun b hb o ho => by
    have ne : b ≠ p0 := fun z => nd.1 (by rw [← z]; exact hb)
    rw [upd_ne ne]; exact ho))
  exact ⟨_, κ, .ref (qs.getD j 0), g1', rfl, by rw [look_rows, hz]; rfl, q _ _ _ F2 as2 _ hk ((s1.tr s2).tr s3) w3 (row_at hp g3 (g2 (κ, j) (lookG_mem hz)))⟩
/-- a dict locked while a loop over it runs -/
theorem ex_lockK (m : Nat) (hnm : n ≤ m) (i : Nat) (hi : i < m) {xs : List (Key × AV)} (hm : m ≤ cs.length) (hc : cs[i]? = some (.k none xs)) {t : TS}
    (h : ∀ (od : Obj) (kv0 : List (Key × V)), Ex K C m E (cs.set i (.k (some (od, kv0)) xs)) t { nx := fun E' cs' => cs'[i]? = some (.k (some (od, kv0)) xs) ∧ D.nx E' (cs'.set i (.k none xs)), rt := fun x cs' => cs'[i]? = some (.k (some (od, kv0)) xs) ∧ D.rt x (cs'.set i (.k none xs)), bk := fun E' cs' => cs'[i]? = some (.k (some (od, kv0)) xs) ∧ D.bk E' (cs'.set i (.k none xs)), ct := fun E' cs' => cs'[i]? = some (.k (some (od, kv0)) xs) ∧ D.ct E' (cs'.set i (.k none xs)) }) :
    Ex K C n E cs (tLock t) D := fun F as H σ Dc hn w e d => by
  have hia : i < as.length := by rw [w.len]; omega
  obtain ⟨p, qs, hp⟩ : ∃ p qs, as[i]? = some (p :: qs) := by
    have h0 := List.getElem?_eq_getElem hia
    cases h1 : as[i] with
    | nil =>
      rw [h1] at h0
      cases w.ok i _ _ h0 hc
    | cons p qs => exact ⟨p, qs, by rw [h0, h1]⟩
  obtain ⟨rfl, kvs, _, g1, g2, g3⟩ := w.dkt hp hc
  refine ⟨p, .dK kvs, g1, trivial, fun od => ?_⟩
  obtain ⟨w1, s1⟩ := w.put (c := .k (some (od, kvs)) xs) (o := .frz od (.dK kvs)) hp (by simp) trivial (.k (lk := some (od, kvs)) rfl upd_same g2 g3)
  have hma : m ≤ as.length := by rw [w.len]; exact hm
  -- back again
  have back : ∀ {F' : Hp} {as' : Own} {cs' : List Cell} {H' : Hp}, cs'[i]? = some (.k (some (od, kvs)) xs) → Stp m F as (upd H p (.frz od (.dK kvs))) F' as' H' → Wd K C F' as' cs' H' → H' p = some (.frz od (.dK kvs)) ∧ Stp m F as H F' as' (upd H' p (.dK kvs)) ∧ Wd K C F' as' (cs'.set i (.k none xs)) (upd H' p (.dK kvs)) := fun {F' as' cs' H'} hc' s' w' => by
    obtain ⟨r, hr⟩ := s'.a i hi _ hp
    obtain ⟨hr0, kvs', e0, f1, f2, f3⟩ := w'.dkt (p := p) (qs := r) hr hc'
    subst hr0
    have e0 : kvs' = kvs := e0
    subst e0
    obtain ⟨w2, s2⟩ := w'.put (c := .k none xs) (o := .dK kvs') (own := [p]) hr (by simp) trivial (.k (lk := none) trivial upd_same f2 f3)
    have hm' : m ≤ as'.length := s'.len hma
    exact ⟨f1, ((s1.weak hma).trans s').trans (s2.weak hm'), w2⟩
  refine h od kvs F as _ σ _ (by rw [List.length_set]; exact hm) w1 e ⟨fun E' cs' F' as' H' σ' ⟨hc', g⟩ s' w' e' => ?_, fun x cs' F' as' H' v ⟨hc', g⟩ s' w' r' => ?_, fun E' cs' F' as' H' σ' ⟨hc', g⟩ s' w' e' => ?_, fun E' cs' F' as' H' σ' ⟨hc', g⟩ s' w' e' => ?_, fun _ _ _ _ _ _ _ _ _ h => h.elim⟩
  · obtain ⟨b1, b2, b3⟩ := back hc' s' w'
    exact ⟨b1, d.nx E' _ F' as' _ σ' g (b2.weak hnm) b3 e'⟩
  · obtain ⟨b1, b2, b3⟩ := back hc' s' w'
    exact ⟨b1, d.rt x _ F' as' _ v g (b2.weak hnm) b3 r'⟩
  · obtain ⟨b1, b2, b3⟩ := back hc' s' w'
    exact ⟨b1, d.bk E' _ F' as' _ σ' g (b2.weak hnm) b3 e'⟩
  · obtain ⟨b1, b2, b3⟩ := back hc' s' w'
    exact ⟨b1, d.ct E' _ F' as' _ σ' g (b2.weak hnm) b3 e'⟩
theorem ex_lockM (m : Nat) (hnm : n ≤ m) (i : Nat) (hi : i < m) {ks : List (Key × Nat)} {rows : List (List PyData)} (hm : m ≤ cs.length) (hc : cs[i]? = some (.m none ks rows)) {t : TS}
    (h : ∀ (od : Obj), Ex K C m E (cs.set i (.m (some od) ks rows)) t { nx := fun E' cs' => ∃ rows', cs'[i]? = some (.m (some od) ks rows') ∧ D.nx E' (cs'.set i (.m none ks rows')), rt := fun x cs' => ∃ rows', cs'[i]? = some (.m (some od) ks rows') ∧ D.rt x (cs'.set i (.m none ks rows')), bk := fun E' cs' => ∃ rows', cs'[i]? = some (.m (some od) ks rows') ∧ D.bk E' (cs'.set i (.m none ks rows')), ct := fun E' cs' => ∃ rows', cs'[i]? = some (.m (some od) ks rows') ∧ D.ct E' (cs'.set i (.m none ks rows')) }) :
    Ex K C n E cs (tLock t) D := fun F as H σ Dc hn w e d => by
  have hia : i < as.length := by rw [w.len]; omega
  obtain ⟨p, qs, hp⟩ : ∃ p qs, as[i]? = some (p :: qs) := by
    have h0 := List.getElem?_eq_getElem hia
    cases h1 : as[i] with
    | nil =>
      rw [h1] at h0
      cases w.ok i _ _ h0 hc
    | cons p qs => exact ⟨p, qs, by rw [h0, h1]⟩
  obtain ⟨g1, g2, g3⟩ := w.drw hp hc
  have nd := List.nodup_cons.mp (w.nd i _ hp)
  have lq := g3.len
  refine ⟨p, .dK (rowsK qs ks), g1, trivial, fun od => ?_⟩
  obtain ⟨w1, s1⟩ := w.put (p := p) (c := .m (some od) ks rows) (o := .frz od (.dK (rowsK qs ks))) hp (by simp) trivial (.m (lk := some od) upd_same g2 (g3.mono (Same.refl F) fun b hb o ho => by
    have ne : b ≠ p := fun z => nd.1 (by rw [← z]; exact hb)
    rw [upd_ne ne]; exact ho))
  have hma : m ≤ as.length := by rw [w.len]; exact hm
  have back : ∀ {F' : Hp} {as' : Own} {cs' : List Cell} {H' : Hp} {rows' : List (List PyData)}, cs'[i]? = some (.m (some od) ks rows') → Stp m F as (upd H p (.frz od (.dK (rowsK qs ks)))) F' as' H' → Wd K C F' as' cs' H' → H' p = some (.frz od (.dK (rowsK qs ks))) ∧ Stp m F as H F' as' (upd H' p (.dK (rowsK qs ks))) ∧ Wd K C F' as' (cs'.set i (.m none ks rows')) (upd H' p (.dK (rowsK qs ks))) := fun {F' as' cs' H' rows'} hc' s' w' => by
    obtain ⟨r, hr⟩ := s'.a i hi _ hp
    obtain ⟨f1, f2, f3⟩ := w'.drw (p := p) (qs := qs ++ r) hr hc'
    have er : rowsK (qs ++ r) ks = rowsK qs ks := List.map_congr_left fun x hx => by
      have : x.2 < qs.length := by rw [lq]; exact g2 x hx
      rw [List.getD_eq_getElem?_getD, List.getD_eq_getElem?_getD, List.getElem?_append_left this]
    rw [er] at f1
    have nd' := List.nodup_cons.mp (show (p :: (qs ++ r)).Nodup from w'.nd i _ hr)
    obtain ⟨w2, s2⟩ := w'.put (p := p) (c := .m none ks rows') (o := .dK (rowsK qs ks)) (own := p :: (qs ++ r)) hr (by simp) trivial (.m (lk := none) (by rw [upd_same, er]; rfl) f2 (f3.mono (Same.refl F') fun b hb o ho => by
      have ne : b ≠ p := fun z => nd'.1 (by rw [← z]; exact hb)
      rw [upd_ne ne]; exact ho))
    have hm' : m ≤ as'.length := s'.len hma
    exact ⟨f1, ((s1.weak hma).trans s').trans (s2.weak hm'), w2⟩
  refine h od F as _ σ _ (by rw [List.length_set]; exact hm) w1 e ⟨fun E' cs' F' as' H' σ' ⟨rs, hc', g⟩ s' w' e' => ?_, fun x cs' F' as' H' v ⟨rs, hc', g⟩ s' w' r' => ?_, fun E' cs' F' as' H' σ' ⟨rs, hc', g⟩ s' w' e' => ?_, fun E' cs' F' as' H' σ' ⟨rs, hc', g⟩ s' w' e' => ?_, fun _ _ _ _ _ _ _ _ _ h => h.elim⟩
  · obtain ⟨b1, b2, b3⟩ := back hc' s' w'
    exact ⟨b1, d.nx E' _ F' as' _ σ' g (b2.weak hnm) b3 e'⟩
  · obtain ⟨b1, b2, b3⟩ := back hc' s' w'
    exact ⟨b1, d.rt x _ F' as' _ v g (b2.weak hnm) b3 r'⟩
  · obtain ⟨b1, b2, b3⟩ := back hc' s' w'
    exact ⟨b1, d.bk E' _ F' as' _ σ' g (b2.weak hnm) b3 e'⟩
  · obtain ⟨b1, b2, b3⟩ := back hc' s' w'
    exact ⟨b1, d.ct E' _ F' as' _ σ' g (b2.weak hnm) b3 e'⟩
/-! ### the keys of a locked dict -/
def keyD : Key → PyData
  | .inl i => .int i
  | .inr s => .str s
theorem keyD_dp {κ : Key} : Dp K F (kV κ) (keyD κ) := by
  cases κ with
  | inl i => exact .int i
  | inr s => exact .str s
theorem keyA_D {κ : Key} : keyA (.d (keyD κ)) = some κ := by cases κ <;> rfl
theorem ei_keysM {ki : List AV → (List Cell → Prop) → List Cell → Prop} {m : Nat} (j : Nat) (hj : j < m) (h : Ev K C E cs td fun x cs1 => x = .cel j ∧ ∃ od ks rows, cs1[j]? = some (.m (some od) ks rows) ∧ ki (ks.map fun z => .d (keyD z.1)) (fun cs2 => ∃ rows', cs2[j]? = some (.m (some od) ks rows')) cs1) : Evi K C m E cs (iKeys td) ki := fun F as H σ R w e q => by
  refine h F as H σ _ w e fun x cs1 v F1 as1 H1 ⟨hx, od, ks, rows, hc, h1⟩ s1 w1 r1 => ?_
  subst hx
  cases r1 with | @cel _ p qs hp =>
  obtain ⟨g1, g2, g3⟩ := w1.drw hp hc
  have lq := g3.len
  have g1' : H1 p = some (.frz od (.dK (rowsK qs ks))) := g1
  have again : ∀ {F2 : Hp} {as2 : Own} {cs2 : List Cell} {H2 : Hp} {rows' : List (List PyData)}, cs2[j]? = some (.m (some od) ks rows') → Stp m F1 as1 H1 F2 as2 H2 → Wd K C F2 as2 cs2 H2 → H2 p = some (.frz od (.dK (rowsK qs ks))) := fun {F2 as2 cs2 H2 rows'} hc' s' w' => by
    obtain ⟨r, hr⟩ := s'.a j hj _ hp
    obtain ⟨f1, f2, f3⟩ := w'.drw (p := p) (qs := qs ++ r) hr hc'
    have er : rowsK (qs ++ r) ks = rowsK qs ks := List.map_congr_left fun x hx => by
      have : x.2 < qs.length := by rw [lq]; exact g2 x hx
      rw [List.getD_eq_getElem?_getD, List.getD_eq_getElem?_getD, List.getElem?_append_left this]
    rw [er] at f1
    exact f1
  refine ⟨p, od, rfl, .inl ⟨_, g1', q _ _ cs1 F1 as1 H1 _ h1 s1 w1 ⟨fun t y F2 as2 cs2 H2 ht ⟨rs, hok⟩ s2 w2 => ?_, fun F2 as2 cs2 H2 ⟨rs, hok⟩ s2 w2 => ?_⟩⟩⟩
  · have hH := again hok s2 w2
    rw [List.getElem?_map] at ht
    obtain ⟨z, hz, rfl⟩ := Option.map_eq_some_iff.mp ht
    have hz2 : (rowsK qs ks)[t]? = some (z.1, V.ref (qs.getD z.2 0)) := by rw [rowsK, List.getElem?_map, hz]; rfl
    refine ⟨⟨hH, (List.getElem?_eq_some_iff.mp hz2).1⟩, fun x H' ⟨e1, κ, v, e2, e3⟩ => ⟨F2, by rw [e1]; exact Stp.refl, by rw [e1]; exact w2, ?_⟩⟩
    rw [hz2] at e2; cases e2
    rw [e3]; exact .d keyD_dp
  · exact ⟨again hok s2 w2, by rw [rowsK, List.length_map, List.length_map]; exact Nat.le_refl _⟩
theorem ei_keysK {ki : List AV → (List Cell → Prop) → List Cell → Prop} {m : Nat} (j : Nat) (hj : j < m) (h : Ev K C E cs td fun x cs1 => x = .cel j ∧ ∃ od kv0 xs, cs1[j]? = some (.k (some (od, kv0)) xs) ∧ ki (xs.map fun z => .d (keyD z.1)) (fun cs2 => cs2[j]? = some (.k (some (od, kv0)) xs)) cs1) : Evi K C m E cs (iKeys td) ki := fun F as H σ R w e q => by
  refine h F as H σ _ w e fun x cs1 v F1 as1 H1 ⟨hx, od, kv0, xs, hc, h1⟩ s1 w1 r1 => ?_
  subst hx
  cases r1 with | @cel _ p qs hp =>
  obtain ⟨rfl, kvs, e0, g1, g2, g3⟩ := w1.dkt hp hc
  have e0 : kvs = kv0 := e0
  subst e0
  have g1' : H1 p = some (.frz od (.dK kvs)) := g1
  have again : ∀ {F2 : Hp} {as2 : Own} {cs2 : List Cell} {H2 : Hp}, cs2[j]? = some (.k (some (od, kvs)) xs) → Stp m F1 as1 H1 F2 as2 H2 → Wd K C F2 as2 cs2 H2 → H2 p = some (.frz od (.dK kvs)) := fun {F2 as2 cs2 H2} hc' s' w' => by
    obtain ⟨r, hr⟩ := s'.a j hj _ hp
    obtain ⟨hr0, kvs', e0, f1, f2, f3⟩ := w'.dkt (p := p) (qs := r) hr hc'
    have e0 : kvs' = kvs := e0
    rw [e0] at f1
    exact f1
  have hlen : kvs.length = xs.length := by rw [← List.length_map (f := Prod.fst), g2, List.length_map]
  refine ⟨p, od, rfl, .inl ⟨_, g1', q _ _ cs1 F1 as1 H1 _ h1 s1 w1 ⟨fun t y F2 as2 cs2 H2 ht hok s2 w2 => ?_, fun F2 as2 cs2 H2 hok s2 w2 => ?_⟩⟩⟩
  · have hH := again hok s2 w2
    rw [List.getElem?_map] at ht
    obtain ⟨z, hz, rfl⟩ := Option.map_eq_some_iff.mp ht
    have h1 : (kvs.map Prod.fst)[t]? = some z.1 := by rw [g2, List.getElem?_map, hz]; rfl
    refine ⟨⟨hH, by rw [hlen]; exact (List.getElem?_eq_some_iff.mp hz).1⟩, fun x H' ⟨e1, κ, v, e2, e3⟩ => ⟨F2, by rw [e1]; exact Stp.refl, by rw [e1]; exact w2, ?_⟩⟩
    rw [List.getElem?_map, e2] at h1
    cases h1
    rw [e3]; exact .d keyD_dp
  · exact ⟨again hok s2 w2, by rw [List.length_map, hlen]; exact Nat.le_refl _⟩
end
end Y

/-! # d.get(k, x) with k None; list(d) -/
namespace L2
open PySem PySem.Spec PyProof.Rows PySem.W PySem.Calls
section
variable {X : Cx} {pins : List (Addr × Obj)} {σ : St} {H : Hp} {s : Shared} {a : Addr} {kvs : List (Key × V)} {A : Around} {E : Value → Shared → Prop} {d : V} {r : Value}
theorem d_get2None {Q : Value → Shared → Prop} (I : Inv X pins σ H s) (e : Rd H a (.dK kvs)) (rd : RelV d r) (h : ∀ w' s', Inv X pins σ H s' → RelV d w' → Q w' s') : wpAny (model X.prog X.w) A (call (.builtin "dict.get") [.ref a, .none, r]) Q E s := by
  obtain ⟨z, hd, vs, rel, dd⟩ := dk_rd I.hok e
  obtain ⟨f, hm, hf⟩ := none_map dd
  refine call_meetsIn PySem.F.slot_dict_get dd.typeIs PySem.F.entry_dict_get (PySem.F.args_dict_get_3 _ _ _) (meets_dict_get_default (noneKind X.prog X.w) a (show (noneKind X.prog X.w).is none .none = true from rfl) hd r) ⟨_, hm, h _ _ (I.tok _) ?_⟩
  rw [hf]
  exact rd
end
def tDGet2N (td ty tx : TE) : TE := fun σ H Q => td σ H fun x H1 => ∃ a, x = .ref a ∧ IsD H1 a ∧ ty σ H1 fun y H2 => tx σ H2 fun z H3 => (∃ o, DGet H3 a y o ∧ Q (o.getD z) H3) ∨ ∃ kvs, y = .non ∧ Rd H3 a (.dK kvs) ∧ Q z H3
section
variable {X : Cx} {o e f : Expr} {apos cpos : Pos} {td ty tx : TE}
theorem pe_dget2N (hu : X.A.units + 1 < cLine) (ho : PE X o td) (he : PE X e ty) (hf : PE X f tx) (m : M2 X o "get" apos e f cpos) : PE X (.Call (.Attribute o "get" apos) [e, f] [] cpos) (tDGet2N td ty tx) := by
  refine ⟨fun pins s σ H Q I h => ?_⟩
  refine wpAny_Call_method m.base m.few m.line PySem.F.plainAttrs_dict PySem.F.slot_dict_get PySem.F.type_dict_get (thn (ho.run pins s σ H _ I h) fun u s1 ⟨x, H1, I1, rx, a, ex, d, q1⟩ => ?_)
  subst ex
  obtain rfl : u = Value.ref a := rx
  obtain ⟨t1, t2, _⟩ := isD_at I1 d
  refine ⟨t1, t2, ?_⟩
  rw [m.trees]
  refine Calls.callWith_builtin rfl (Calls.evalArgs_plain (Calls.spliced_cons (thn (he.run pins s1 σ H1 _ I1 q1) fun iv s2 ⟨y, H2, I2, ry, q2⟩ =>
    Calls.spliced_cons (thn (hf.run pins s2 σ H2 _ I2 q2) fun fv s3 ⟨z, H3, I3, rz, q3⟩ => Calls.spliced_nil ?_))))
  rcases q3 with ⟨ov, g, q3⟩ | ⟨kvs, ey, g, q3⟩
  · exact d_get2 hu I3 g ry rz fun w' s4 I4 rw' => ⟨_, H3, I4, rw', q3⟩
  · subst ey
    obtain rfl : iv = Value.none := ry
    exact d_get2None I3 g rz fun w' s4 I4 rw' => ⟨_, H3, I4, rw', q3⟩
end
end L2
namespace Y
open PySem L2
def rListDK : List V → Hp → VK → Prop := fun xs H Q => ∃ (a : Addr) (kvs : List (Key × V)), xs = [.ref a] ∧ Rd H a (.dK kvs) ∧ ∀ p, H p = none → Q (.ref p) (upd H p (.lst (kvs.map fun kv => kV kv.1)))
theorem call_listDK {X : Cx} (hc : X.calm = true) : CallR X (.type "list") rListDK := call_listD hc
section
variable {K : PySem.W.Frag} {C : Addr} {F F' H H' : Hp} {as as' : Own} {cs cs' cs1 : List Cell} {E : AEnv} {k : AV → List Cell → Prop} {td ty tx : TE} {x y : AV}
/-- d.get(key, other), the values named; the key may be None -/
theorem ev_dget2K (h : Ev K C E cs td fun x cs1 => (∃ ls, keysOf x cs1 = some ls) ∧ Ev K C E cs1 ty fun y cs2 => Ev K C E cs2 tx fun z cs3 => ∃ i lk xs, x = .cel i ∧ cs3[i]? = some (.k lk xs) ∧ ((∃ κ, keyA y = some κ ∧ k ((lookG xs κ).getD z) cs3) ∨ y = .d .none ∧ k z cs3)) : Ev K C E cs (tDGet2N td ty tx) k := fun F as H σ Q w e q => by
  refine h F as H σ _ w e fun x cs1 v F1 as1 H1 ⟨⟨ls, hls⟩, h1⟩ s1 w1 r1 => ?_
  obtain ⟨p0, kv0, rfl, hr0, _⟩ := keysOf_at hls w1 r1
  refine ⟨p0, rfl, .inl ⟨kv0, hr0⟩, ?_⟩
  refine h1 F1 as1 H1 σ _ w1 (e.mono s1.f s1.pre) fun y cs2 u F2 as2 H2 h2 s2 w2 r2 => ?_
  have s12 := s1.tr s2
  refine h2 F2 as2 H2 σ _ w2 (e.mono s12.f s12.pre) fun z cs3 t F3 as3 H3 ⟨i, lk, xs, hx, hc, hk⟩ s3 w3 r3 => ?_
  subst hx
  have s23 := s2.tr s3
  have r1' := r1.mono s23.f s23.pre
  have r2' := r2.mono s3.f s3.pre
  cases r1' with | @cel _ p qs hp =>
  obtain ⟨_, kvs, _, g1, g2, g3⟩ := w3.dkt hp hc
  rcases hk with ⟨κ, hy, hk⟩ | ⟨hy, hk⟩
  · obtain rfl := keyA_at hy r2'
    obtain ⟨l1, l2⟩ := look_avs (κ := κ) g2 g3
    refine .inl ⟨valV kvs κ, .inl ⟨kvs, κ, rd_lk g1, rfl, rfl⟩, ?_⟩
    cases e1 : lookG xs κ with
    | none =>
      rw [e1] at hk
      rw [l1 e1]
      exact q _ cs3 _ F3 as3 H3 hk (s12.tr s3) w3 r3
    | some a =>
      rw [e1] at hk
      obtain ⟨v', v1, v2⟩ := l2 a e1
      rw [v1]
      exact q _ cs3 _ F3 as3 H3 hk (s12.tr s3) w3 v2
  · subst hy
    cases r2' with | d r2' =>
    exact .inr ⟨kvs, r2'.non_inv, rd_lk g1, q _ cs3 _ F3 as3 H3 hk (s12.tr s3) w3 r3⟩
/-- list(d) -/
theorem on_listM {i : Nat} {ks : List (Key × Nat)} {rows : List (List PyData)} (h1 : cs[i]? = some (.m none ks rows)) (h : k (.cel cs.length) (cs ++ [.l (ks.map fun z => keyD z.1)])) : On K C rListDK [.cel i] cs k := fun F as H vs Q w r q => by
  cases r with | cons r1 r2 =>
  cases r2
  cases r1 with | @cel _ p qs hp =>
  obtain ⟨g1, g2, g3⟩ := w.drw hp h1
  have g1' : H p = some (.dK (rowsK qs ks)) := g1
  refine ⟨p, _, rfl, .inl g1', fun l hl => ?_⟩
  have hd : ∀ ks : List (Key × Nat), DpAll K F ((rowsK qs ks).map fun kv => kV kv.1) (ks.map fun z => keyD z.1) := fun ks => by
    induction ks with
    | nil => exact .nil
    | cons a ks ih => exact .cons keyD_dp ih
  exact Kt.cell q w hl trivial (.l upd_same (hd ks)) h
/-- a dict literal of constants -/
theorem pairs_c : ∀ (ps : List (Str × Int)) (σ : St) (H : Hp) (Q : List (V × V) → Hp → Prop), Q (ps.map fun z => (V.str z.1, V.int z.2)) H → tPairs (ps.map fun z => (tC (.str z.1), tC (.int z.2))) σ H Q
  | [], _, _, _, h => h
  | a :: ps, σ, H, Q, h => pairs_c ps σ H _ h
theorem ev_disp {trs : List (TE × TE)} (ps : List (Str × Int)) (ht : trs = ps.map fun z => (tC (.str z.1), tC (.int z.2))) (hl : ps.length ≤ 15) (hm : mergeK [] (ps.map fun z => (Sum.inr z.1, V.int z.2)) = ps.map fun z => ((Sum.inr z.1 : Key), V.int z.2)) (h : k (.cel cs.length) (cs ++ [.k none (ps.map fun z => (Sum.inr z.1, .d (.int z.2)))])) : Ev K C E cs (tDisp trs) k := fun F as H σ Q w e q p hp => by
  subst ht
  refine pairs_c ps σ _ _ ⟨upd_same, ps.map fun z => (Sum.inr z.1, V.int z.2), by rw [List.map_map]; rfl, by rw [List.length_map]; exact hl, ?_⟩
  rw [hm]
  have e2 : upd (upd H p (.dK [])) p (.dK (ps.map fun z => ((Sum.inr z.1 : Key), V.int z.2))) = upd H p (.dK (ps.map fun z => ((Sum.inr z.1 : Key), V.int z.2))) := by
    funext b
    by_cases c : b = p
    · subst c; rw [upd_same, upd_same]
    · rw [upd_ne c, upd_ne c, upd_ne c]
  rw [e2]
  have ha : ∀ ps : List (Str × Int), ARs K C F (as ++ [[p]]) ((ps.map fun z => ((Sum.inr z.1 : Key), AV.d (.int z.2))).map Prod.snd) ((ps.map fun z => ((Sum.inr z.1 : Key), V.int z.2)).map Prod.snd) := fun ps => by
    induction ps with
    | nil => exact .nil
    | cons a ps ih => exact .cons (.d (.int _)) ih
  exact Kt.cell (fun a b c _ _ _ g t => q a b c _ _ _ g t) w hp trivial (.k (lk := none) trivial upd_same (by simp) (ha ps)) h
end
end Y

namespace Y
open PySem L2
def top (i : Nat) : Stmt := PySem.Challenge.pw_yearturned_k69_calls_by_name.main.body.getD i (.Pass ⟨0, 0, 0, 0⟩)
abbrev s_is_whole : Stmt := top 12
abbrev s_is_label : Stmt := top 13
abbrev s_is_amount : Stmt := top 14
abbrev s_is_number : Stmt := top 15
abbrev s_is_deed : Stmt := top 16
abbrev s_OldLine_init : Stmt := inClass (top 18) 0
abbrev s_OldLine_closing : Stmt := inClass (top 18) 1
abbrev s_OldLine_row : Stmt := inClass (top 18) 2
abbrev s_OldLine_twin : Stmt := inClass (top 18) 3
abbrev s_NewLine_init : Stmt := inClass (top 19) 0
abbrev s_NewLine_row : Stmt := inClass (top 19) 1
abbrev s_NewLine_is_own : Stmt := inClass (top 19) 2
abbrev s_NewLine_twin : Stmt := inClass (top 19) 3
abbrev s_Ledgers_init : Stmt := inClass (top 20) 0
abbrev s_Ledgers_twin : Stmt := inClass (top 20) 1
abbrev s_Ledgers_old_line : Stmt := inClass (top 20) 2
abbrev s_Ledgers_new_line : Stmt := inClass (top 20) 3
abbrev s_Ledgers_made_lines : Stmt := inClass (top 20) 4
abbrev s_Ledgers_rows : Stmt := inClass (top 20) 5
abbrev s_Ledgers_check : Stmt := inClass (top 20) 6
abbrev s_Ledgers_play_deed : Stmt := inClass (top 20) 7
abbrev s_Ledgers_set_field : Stmt := inClass (top 20) 8
abbrev s_Ledgers_write_field : Stmt := inClass (top 20) 9
abbrev s_Ledgers_put_line : Stmt := inClass (top 20) 10
abbrev s_Ledgers_run : Stmt := inClass (top 20) 11
abbrev s_Ledgers_make : Stmt := inClass (top 20) 12
abbrev s_Ledgers_drop : Stmt := inClass (top 20) 13
abbrev s_Ledgers_source_of : Stmt := inClass (top 20) 14
abbrev s_Ledgers_follow : Stmt := inClass (top 20) 15
abbrev s_Ledgers_is_in : Stmt := inClass (top 20) 16
abbrev s_Ledgers_wrongs : Stmt := inClass (top 20) 17
abbrev s_Ledgers_old_wrongs : Stmt := inClass (top 20) 18
abbrev s_Ledgers_typed_wrongs : Stmt := inClass (top 20) 19
abbrev s_check_all : Stmt := top 22
abbrev s_Years_init : Stmt := inClass (top 23) 0
abbrev s_Years_len : Stmt := inClass (top 23) 1
abbrev s_Years_runs : Stmt := inClass (top 23) 2
abbrev s_Years_script : Stmt := inClass (top 23) 3
abbrev s_Years_remember : Stmt := inClass (top 23) 5
abbrev s_Years_play_all : Stmt := inClass (top 23) 6
abbrev s_Years_do : Stmt := inClass (top 23) 7
abbrev s_Years_do_all : Stmt := inClass (top 23) 8
abbrev s_Years_change : Stmt := inClass (top 23) 9
abbrev s_Years_undo : Stmt := inClass (top 23) 10
abbrev s_Years_old : Stmt := inClass (top 23) 11
abbrev s_Years_new : Stmt := inClass (top 23) 12
abbrev s_Years_faults : Stmt := inClass (top 23) 13
abbrev s_Years_made_of : Stmt := inClass (top 23) 14
abbrev s_is_step : Stmt := top 27
abbrev s_Script_init : Stmt := inClass (top 28) 0
abbrev s_Script_steps : Stmt := inClass (top 28) 8
abbrev s_jar : Stmt := top 30
abbrev s_draw : Stmt := top 31
abbrev s_any_step : Stmt := top 32
abbrev s_plan : Stmt := top 33
abbrev s_act : Stmt := top 34
abbrev s_stand : Stmt := top 35
abbrev s_called : Stmt := top 36
abbrev s_right : Stmt := top 37
abbrev s_law : Stmt := top 38
theorem sc_is_whole : FnScope ["thing"] ["thing"] (defScope s_is_whole) := ⟨rfl, rfl, rfl, by decide +kernel, rfl, by decide +kernel, by decide +kernel⟩
theorem sc_is_label : FnScope ["thing"] ["thing"] (defScope s_is_label) := ⟨rfl, rfl, rfl, by decide +kernel, rfl, by decide +kernel, by decide +kernel⟩
theorem sc_is_amount : FnScope ["thing"] ["thing"] (defScope s_is_amount) := ⟨rfl, rfl, rfl, by decide +kernel, rfl, by decide +kernel, by decide +kernel⟩
theorem sc_is_number : FnScope ["thing"] ["thing"] (defScope s_is_number) := ⟨rfl, rfl, rfl, by decide +kernel, rfl, by decide +kernel, by decide +kernel⟩
theorem sc_is_deed : FnScope ["thing", "word", "rest"] ["thing"] (defScope s_is_deed) := ⟨rfl, rfl, rfl, by decide +kernel, rfl, by decide +kernel, by decide +kernel⟩
theorem sc_OldLine_init : FnScope ["self", "number", "label", "start"] ["self", "number", "label", "start"] (defScope s_OldLine_init) := ⟨rfl, rfl, rfl, by decide +kernel, rfl, by decide +kernel, by decide +kernel⟩
theorem sc_OldLine_row : FnScope ["self"] ["self"] (defScope s_OldLine_row) := ⟨rfl, rfl, rfl, by decide +kernel, rfl, by decide +kernel, by decide +kernel⟩
theorem sc_NewLine_init : FnScope ["self", "number", "label", "start", "source"] ["self", "number", "label", "start", "source"] (defScope s_NewLine_init) := ⟨rfl, rfl, rfl, by decide +kernel, rfl, by decide +kernel, by decide +kernel⟩
theorem sc_NewLine_row : FnScope ["self"] ["self"] (defScope s_NewLine_row) := ⟨rfl, rfl, rfl, by decide +kernel, rfl, by decide +kernel, by decide +kernel⟩
theorem sc_Ledgers_init : FnScope ["self"] ["self"] (defScope s_Ledgers_init) := ⟨rfl, rfl, rfl, by decide +kernel, rfl, by decide +kernel, by decide +kernel⟩
theorem sc_Ledgers_old_line : FnScope ["self", "number"] ["self", "number"] (defScope s_Ledgers_old_line) := ⟨rfl, rfl, rfl, by decide +kernel, rfl, by decide +kernel, by decide +kernel⟩
theorem sc_Ledgers_new_line : FnScope ["self", "number", "found", "line"] ["self", "number"] (defScope s_Ledgers_new_line) := ⟨rfl, rfl, rfl, by decide +kernel, rfl, by decide +kernel, by decide +kernel⟩
theorem sc_Ledgers_rows : FnScope ["self", "line"] ["self"] (defScope s_Ledgers_rows) := ⟨rfl, rfl, rfl, by decide +kernel, rfl, by decide +kernel, by decide +kernel⟩
theorem sc_Ledgers_check : FnScope ["self", "deed", "index", "word", "numbers", "lacking", "number"] ["self", "deed", "index"] (defScope s_Ledgers_check) := ⟨rfl, rfl, rfl, by decide +kernel, rfl, by decide +kernel, by decide +kernel⟩
theorem sc_Ledgers_play_deed : FnScope ["self", "steps", "deed", "word"] ["self", "steps", "deed"] (defScope s_Ledgers_play_deed) := ⟨rfl, rfl, rfl, by decide +kernel, rfl, by decide +kernel, by decide +kernel⟩
theorem sc_Ledgers_set_field : FnScope ["self", "line", "deed"] ["self", "line", "deed"] (defScope s_Ledgers_set_field) := ⟨rfl, rfl, rfl, by decide +kernel, rfl, by decide +kernel, by decide +kernel⟩
theorem sc_Ledgers_write_field : FnScope ["self", "line", "word", "value"] ["self", "line", "word", "value"] (defScope s_Ledgers_write_field) := ⟨rfl, rfl, rfl, by decide +kernel, rfl, by decide +kernel, by decide +kernel⟩
theorem sc_Ledgers_put_line : FnScope ["self", "label", "start", "source"] ["self", "label", "start", "source"] (defScope s_Ledgers_put_line) := ⟨rfl, rfl, rfl, by decide +kernel, rfl, by decide +kernel, by decide +kernel⟩
theorem sc_Ledgers_run : FnScope ["self", "steps", "step", "there", "made", "line", "number"] ["self", "steps"] (defScope s_Ledgers_run) := ⟨rfl, rfl, rfl, by decide +kernel, rfl, by decide +kernel, by decide +kernel⟩
theorem sc_Ledgers_wrongs : FnScope ["self", "index", "found", "there", "line", "numbers", "word"] ["self", "index"] (defScope s_Ledgers_wrongs) := ⟨rfl, rfl, rfl, by decide +kernel, rfl, by decide +kernel, by decide +kernel⟩
theorem sc_OldLine_closing : FnScope ["self"] ["self"] (defScope s_OldLine_closing) := ⟨rfl, rfl, rfl, by decide +kernel, rfl, by decide +kernel, by decide +kernel⟩
theorem sc_NewLine_is_own : FnScope ["self", "field"] ["self", "field"] (defScope s_NewLine_is_own) := ⟨rfl, rfl, rfl, by decide +kernel, rfl, by decide +kernel, by decide +kernel⟩
theorem sc_Ledgers_made_lines : FnScope ["self", "line"] ["self"] (defScope s_Ledgers_made_lines) := ⟨rfl, rfl, rfl, by decide +kernel, rfl, by decide +kernel, by decide +kernel⟩
theorem sc_Ledgers_source_of : FnScope ["self", "line"] ["self", "line"] (defScope s_Ledgers_source_of) := ⟨rfl, rfl, rfl, by decide +kernel, rfl, by decide +kernel, by decide +kernel⟩
theorem sc_Ledgers_is_in : FnScope ["self", "line", "field", "scope"] ["self", "line", "field", "scope"] (defScope s_Ledgers_is_in) := ⟨rfl, rfl, rfl, by decide +kernel, rfl, by decide +kernel, by decide +kernel⟩
theorem sc_Ledgers_make : FnScope ["self", "scope", "there", "line"] ["self", "scope"] (defScope s_Ledgers_make) := ⟨rfl, rfl, rfl, by decide +kernel, rfl, by decide +kernel, by decide +kernel⟩
theorem sc_Ledgers_drop : FnScope ["self", "gone", "line"] ["self"] (defScope s_Ledgers_drop) := ⟨rfl, rfl, rfl, by decide +kernel, rfl, by decide +kernel, by decide +kernel⟩
theorem sc_Ledgers_follow : FnScope ["self", "field", "scope", "there", "line", "source"] ["self", "field", "scope"] (defScope s_Ledgers_follow) := ⟨rfl, rfl, rfl, by decide +kernel, rfl, by decide +kernel, by decide +kernel⟩
theorem sc_Ledgers_old_wrongs : FnScope ["self", "line", "there", "made", "found", "is_wished"] ["self", "line", "there"] (defScope s_Ledgers_old_wrongs) := ⟨rfl, rfl, rfl, by decide +kernel, rfl, by decide +kernel, by decide +kernel⟩
theorem sc_Ledgers_typed_wrongs : FnScope ["self", "line", "numbers", "label", "tie", "found", "is_gone"] ["self", "line", "numbers"] (defScope s_Ledgers_typed_wrongs) := ⟨rfl, rfl, rfl, by decide +kernel, rfl, by decide +kernel, by decide +kernel⟩
theorem sc_OldLine_twin : FnScope ["self", "other"] ["self"] (defScope s_OldLine_twin) := ⟨rfl, rfl, rfl, by decide +kernel, rfl, by decide +kernel, by decide +kernel⟩
theorem sc_NewLine_twin : FnScope ["self", "other"] ["self"] (defScope s_NewLine_twin) := ⟨rfl, rfl, rfl, by decide +kernel, rfl, by decide +kernel, by decide +kernel⟩
theorem sc_Ledgers_twin : FnScope ["self", "other", "line"] ["self"] (defScope s_Ledgers_twin) := ⟨rfl, rfl, rfl, by decide +kernel, rfl, by decide +kernel, by decide +kernel⟩
theorem sc_is_step : FnScope ["thing", "word"] ["thing"] (defScope s_is_step) := ⟨rfl, rfl, rfl, by decide +kernel, rfl, by decide +kernel, by decide +kernel⟩
theorem sc_Script_init : FnScope ["self", "steps", "index", "step"] ["self", "steps"] (defScope s_Script_init) := ⟨rfl, rfl, rfl, by decide +kernel, rfl, by decide +kernel, by decide +kernel⟩
theorem sc_Script_steps : FnScope ["self"] ["self"] (defScope s_Script_steps) := ⟨rfl, rfl, rfl, by decide +kernel, rfl, by decide +kernel, by decide +kernel⟩
theorem sc_check_all : FnScope ["deeds", "first", "place", "deed"] ["deeds", "first"] (defScope s_check_all) := ⟨rfl, rfl, rfl, by decide +kernel, rfl, by decide +kernel, by decide +kernel⟩
theorem sc_Years_init : FnScope ["self", "script"] ["self", "script"] (defScope s_Years_init) := ⟨rfl, rfl, rfl, by decide +kernel, rfl, by decide +kernel, by decide +kernel⟩
theorem sc_Years_len : FnScope ["self"] ["self"] (defScope s_Years_len) := ⟨rfl, rfl, rfl, by decide +kernel, rfl, by decide +kernel, by decide +kernel⟩
theorem sc_Years_runs : FnScope ["self", "deed"] ["self"] (defScope s_Years_runs) := ⟨rfl, rfl, rfl, by decide +kernel, rfl, by decide +kernel, by decide +kernel⟩
theorem sc_Years_script : FnScope ["self"] ["self"] (defScope s_Years_script) := ⟨rfl, rfl, rfl, by decide +kernel, rfl, by decide +kernel, by decide +kernel⟩
theorem sc_Years_remember : FnScope ["self"] ["self"] (defScope s_Years_remember) := ⟨rfl, rfl, rfl, by decide +kernel, rfl, by decide +kernel, by decide +kernel⟩
theorem sc_Years_play_all : FnScope ["self", "deeds", "ledgers", "wrong", "found", "place", "deed", "index"] ["self", "deeds"] (defScope s_Years_play_all) := ⟨rfl, rfl, rfl, by decide +kernel, rfl, by decide +kernel, by decide +kernel⟩
theorem sc_Years_do : FnScope ["self", "deed"] ["self", "deed"] (defScope s_Years_do) := ⟨rfl, rfl, rfl, by decide +kernel, rfl, by decide +kernel, by decide +kernel⟩
theorem sc_Years_do_all : FnScope ["self", "deeds"] ["self", "deeds"] (defScope s_Years_do_all) := ⟨rfl, rfl, rfl, by decide +kernel, rfl, by decide +kernel, by decide +kernel⟩
theorem sc_Years_change : FnScope ["self", "script"] ["self", "script"] (defScope s_Years_change) := ⟨rfl, rfl, rfl, by decide +kernel, rfl, by decide +kernel, by decide +kernel⟩
theorem sc_Years_undo : FnScope ["self"] ["self"] (defScope s_Years_undo) := ⟨rfl, rfl, rfl, by decide +kernel, rfl, by decide +kernel, by decide +kernel⟩
theorem sc_Years_old : FnScope ["self"] ["self"] (defScope s_Years_old) := ⟨rfl, rfl, rfl, by decide +kernel, rfl, by decide +kernel, by decide +kernel⟩
theorem sc_Years_new : FnScope ["self"] ["self"] (defScope s_Years_new) := ⟨rfl, rfl, rfl, by decide +kernel, rfl, by decide +kernel, by decide +kernel⟩
theorem sc_Years_faults : FnScope ["self"] ["self"] (defScope s_Years_faults) := ⟨rfl, rfl, rfl, by decide +kernel, rfl, by decide +kernel, by decide +kernel⟩
theorem sc_Years_made_of : FnScope ["self", "number", "made"] ["self", "number"] (defScope s_Years_made_of) := ⟨rfl, rfl, rfl, by decide +kernel, rfl, by decide +kernel, by decide +kernel⟩
theorem sc_jar : FnScope ["script", "k", "cell"] ["script", "k"] (defScope s_jar) := ⟨rfl, rfl, rfl, by decide +kernel, rfl, by decide +kernel, by decide +kernel⟩
theorem sc_draw : FnScope ["jar", "many", "found", "stirred"] ["jar", "many"] (defScope s_draw) := ⟨rfl, rfl, rfl, by decide +kernel, rfl, by decide +kernel, by decide +kernel⟩
theorem sc_any_step : FnScope ["jar", "some"] ["jar"] (defScope s_any_step) := ⟨rfl, rfl, rfl, by decide +kernel, rfl, by decide +kernel, by decide +kernel⟩
theorem sc_plan : FnScope ["jar", "found", "turn", "spot", "way", "k"] ["jar"] (defScope s_plan) := ⟨rfl, rfl, rfl, by decide +kernel, rfl, by decide +kernel, by decide +kernel⟩
theorem sc_act : FnScope ["jar", "way", "worth", "some"] ["jar"] (defScope s_act) := ⟨rfl, rfl, rfl, by decide +kernel, rfl, by decide +kernel, by decide +kernel⟩
theorem sc_stand : FnScope ["years"] ["years"] (defScope s_stand) := ⟨rfl, rfl, rfl, by decide +kernel, rfl, by decide +kernel, by decide +kernel⟩
theorem sc_called : FnScope ["jar", "one", "two", "works", "way", "act", "acts", "work"] ["jar", "one", "two", "works"] (defScope s_called) := ⟨rfl, rfl, rfl, by decide +kernel, rfl, by decide +kernel, by decide +kernel⟩
theorem sc_right : FnScope ["jar", "works", "one", "two", "years", "turn"] ["jar"] (defScope s_right) := ⟨rfl, rfl, rfl, by decide +kernel, rfl, by decide +kernel, by decide +kernel⟩
theorem sc_law : FnScope ["script", "k"] ["script"] (defScope s_law) := ⟨rfl, rfl, rfl, by decide +kernel, rfl, by decide +kernel, by decide +kernel⟩
/-- a def of the module, a def of a class, as the top has left them -/
structure Df (K : PySem.W.Frag) (mg : Str → Option Value) (x : Str) (st : Stmt) (ps : List Str) where
  a : Addr
  fd : FuncData
  F : Fun K x x st a fd
  g : mg x = some (.ref a)
  b : Binds K fd ps []
structure Mt (K : PySem.W.Frag) (C : Addr) (m q : Str) (st : Stmt) (ps : List Str) where
  a : Addr
  fd : FuncData
  F : Fun K m q st a fd
  m : Meth K C m a
  b : Binds K fd ps []
/-- a property of a class -/
structure Pp (K : PySem.W.Frag) (C : Addr) (m q : Str) (st : Stmt) (ps : List Str) where
  a : Addr
  p : Addr
  fd : FuncData
  F : Fun K m q st a fd
  po : PropOf K C m p a
  b : Binds K fd ps []
theorem Mt.spc {K : PySem.W.Frag} {C : Addr} {m q : Str} {st : Stmt} {ps : List Str} (M : Mt K C m q st ps) : Spc K C m M.a := ⟨M.m.at_, M.m.fn⟩

structure Tx (K : PySem.W.Frag) (mg : Str → Option Value) where
  c_Script : Addr
  g_Script : mg "Script" = some (.ref c_Script)
  c_OldLine : Addr
  g_OldLine : mg "OldLine" = some (.ref c_OldLine)
  c_NewLine : Addr
  g_NewLine : mg "NewLine" = some (.ref c_NewLine)
  c_Ledgers : Addr
  g_Ledgers : mg "Ledgers" = some (.ref c_Ledgers)
  c_Years : Addr
  g_Years : mg "Years" = some (.ref c_Years)
  is_whole : Df K mg "is_whole" s_is_whole ["thing"]
  is_label : Df K mg "is_label" s_is_label ["thing"]
  is_amount : Df K mg "is_amount" s_is_amount ["thing"]
  is_number : Df K mg "is_number" s_is_number ["thing"]
  is_deed : Df K mg "is_deed" s_is_deed ["thing"]
  OldLine_init : Mt K c_OldLine "__init__" "OldLine.__init__" s_OldLine_init ["self", "number", "label", "start"]
  OldLine_row : Mt K c_OldLine "row" "OldLine.row" s_OldLine_row ["self"]
  NewLine_init : Mt K c_NewLine "__init__" "NewLine.__init__" s_NewLine_init ["self", "number", "label", "start", "source"]
  NewLine_row : Mt K c_NewLine "row" "NewLine.row" s_NewLine_row ["self"]
  Ledgers_init : Mt K c_Ledgers "__init__" "Ledgers.__init__" s_Ledgers_init ["self"]
  Ledgers_old_line : Mt K c_Ledgers "old_line" "Ledgers.old_line" s_Ledgers_old_line ["self", "number"]
  Ledgers_new_line : Mt K c_Ledgers "new_line" "Ledgers.new_line" s_Ledgers_new_line ["self", "number"]
  Ledgers_rows : Mt K c_Ledgers "rows" "Ledgers.rows" s_Ledgers_rows ["self"]
  Ledgers_check : Mt K c_Ledgers "check" "Ledgers.check" s_Ledgers_check ["self", "deed", "index"]
  Ledgers_play_deed : Mt K c_Ledgers "play_deed" "Ledgers.play_deed" s_Ledgers_play_deed ["self", "steps", "deed"]
  Ledgers_set_field : Mt K c_Ledgers "set_field" "Ledgers.set_field" s_Ledgers_set_field ["self", "line", "deed"]
  Ledgers_write_field : Mt K c_Ledgers "write_field" "Ledgers.write_field" s_Ledgers_write_field ["self", "line", "word", "value"]
  Ledgers_put_line : Mt K c_Ledgers "put_line" "Ledgers.put_line" s_Ledgers_put_line ["self", "label", "start", "source"]
  Ledgers_run : Mt K c_Ledgers "run" "Ledgers.run" s_Ledgers_run ["self", "steps"]
  Ledgers_wrongs : Mt K c_Ledgers "wrongs" "Ledgers.wrongs" s_Ledgers_wrongs ["self", "index"]
  OldLine_closing : Mt K c_OldLine "closing" "OldLine.closing" s_OldLine_closing ["self"]
  NewLine_is_own : Mt K c_NewLine "is_own" "NewLine.is_own" s_NewLine_is_own ["self", "field"]
  Ledgers_made_lines : Mt K c_Ledgers "made_lines" "Ledgers.made_lines" s_Ledgers_made_lines ["self"]
  Ledgers_source_of : Mt K c_Ledgers "source_of" "Ledgers.source_of" s_Ledgers_source_of ["self", "line"]
  Ledgers_is_in : Mt K c_Ledgers "is_in" "Ledgers.is_in" s_Ledgers_is_in ["self", "line", "field", "scope"]
  Ledgers_make : Mt K c_Ledgers "make" "Ledgers.make" s_Ledgers_make ["self", "scope"]
  Ledgers_drop : Mt K c_Ledgers "drop" "Ledgers.drop" s_Ledgers_drop ["self"]
  Ledgers_follow : Mt K c_Ledgers "follow" "Ledgers.follow" s_Ledgers_follow ["self", "field", "scope"]
  Ledgers_old_wrongs : Mt K c_Ledgers "old_wrongs" "Ledgers.old_wrongs" s_Ledgers_old_wrongs ["self", "line", "there"]
  Ledgers_typed_wrongs : Mt K c_Ledgers "typed_wrongs" "Ledgers.typed_wrongs" s_Ledgers_typed_wrongs ["self", "line", "numbers"]
  OldLine_twin : Mt K c_OldLine "twin" "OldLine.twin" s_OldLine_twin ["self"]
  NewLine_twin : Mt K c_NewLine "twin" "NewLine.twin" s_NewLine_twin ["self"]
  Ledgers_twin : Mt K c_Ledgers "twin" "Ledgers.twin" s_Ledgers_twin ["self"]
  is_step : Df K mg "is_step" s_is_step ["thing"]
  Script_init : Mt K c_Script "__init__" "Script.__init__" s_Script_init ["self", "steps"]
  Script_steps : Mt K c_Script "steps" "Script.steps" s_Script_steps ["self"]
  check_all : Df K mg "check_all" s_check_all ["deeds", "first"]
  Years_init : Mt K c_Years "__init__" "Years.__init__" s_Years_init ["self", "script"]
  Years_len : Mt K c_Years "__len__" "Years.__len__" s_Years_len ["self"]
  Years_runs : Pp K c_Years "runs" "Years.runs" s_Years_runs ["self"]
  Years_script : Pp K c_Years "script" "Years.script" s_Years_script ["self"]
  Years_remember : Mt K c_Years "remember" "Years.remember" s_Years_remember ["self"]
  Years_play_all : Mt K c_Years "play_all" "Years.play_all" s_Years_play_all ["self", "deeds"]
  Years_do : Mt K c_Years "do" "Years.do" s_Years_do ["self", "deed"]
  Years_do_all : Mt K c_Years "do_all" "Years.do_all" s_Years_do_all ["self", "deeds"]
  Years_change : Mt K c_Years "change" "Years.change" s_Years_change ["self", "script"]
  Years_undo : Mt K c_Years "undo" "Years.undo" s_Years_undo ["self"]
  Years_old : Mt K c_Years "old" "Years.old" s_Years_old ["self"]
  Years_new : Mt K c_Years "new" "Years.new" s_Years_new ["self"]
  Years_faults : Mt K c_Years "faults" "Years.faults" s_Years_faults ["self"]
  Years_made_of : Mt K c_Years "made_of" "Years.made_of" s_Years_made_of ["self", "number"]
  jar : Df K mg "_law_jar" s_jar ["script", "k"]
  draw : Df K mg "_law_draw" s_draw ["jar", "many"]
  any_step : Df K mg "_law_any_step" s_any_step ["jar"]
  plan : Df K mg "_law_plan" s_plan ["jar"]
  act : Df K mg "_law_act" s_act ["jar"]
  stand : Df K mg "_law_stand" s_stand ["years"]
  called : Df K mg "_law_called" s_called ["jar", "one", "two", "works"]
  right : Df K mg "_law_right" s_right ["jar"]
  law : Df K mg "law" s_law ["script"]
  cl_Script : Cls K c_Script
  ic_Script : InsI K c_Script
  mk_Script : Mk K c_Script Script_init.a
  na_Script_kept_steps : NoAttr K c_Script "kept_steps"
  cl_OldLine : Cls K c_OldLine
  ic_OldLine : InsI K c_OldLine
  mk_OldLine : Mk K c_OldLine OldLine_init.a
  na_OldLine_number : NoAttr K c_OldLine "number"
  na_OldLine_label : NoAttr K c_OldLine "label"
  na_OldLine_start : NoAttr K c_OldLine "start"
  na_OldLine_moves : NoAttr K c_OldLine "moves"
  na_OldLine_tie : NoAttr K c_OldLine "tie"
  na_OldLine_standing : NoAttr K c_OldLine "standing"
  cl_NewLine : Cls K c_NewLine
  ic_NewLine : InsI K c_NewLine
  mk_NewLine : Mk K c_NewLine NewLine_init.a
  na_NewLine_number : NoAttr K c_NewLine "number"
  na_NewLine_label : NoAttr K c_NewLine "label"
  na_NewLine_start : NoAttr K c_NewLine "start"
  na_NewLine_source : NoAttr K c_NewLine "source"
  na_NewLine_moves : NoAttr K c_NewLine "moves"
  na_NewLine_tie : NoAttr K c_NewLine "tie"
  na_NewLine_typed : NoAttr K c_NewLine "typed"
  cl_Ledgers : Cls K c_Ledgers
  ic_Ledgers : InsI K c_Ledgers
  mk_Ledgers : Mk K c_Ledgers Ledgers_init.a
  na_Ledgers_elder : NoAttr K c_Ledgers "elder"
  na_Ledgers_later : NoAttr K c_Ledgers "later"
  na_Ledgers_ever : NoAttr K c_Ledgers "ever"
  na_Ledgers_fresh : NoAttr K c_Ledgers "fresh"
  na_Ledgers_ahead : NoAttr K c_Ledgers "ahead"
  cl_Years : Cls K c_Years
  ic_Years : InsI K c_Years
  mk_Years : Mk K c_Years Years_init.a
  na_Years_plan : NoAttr K c_Years "plan"
  na_Years_ledgers : NoAttr K c_Years "ledgers"
  na_Years_story : NoAttr K c_Years "story"
  na_Years_wrong : NoAttr K c_Years "wrong"
  na_Years_past : NoAttr K c_Years "past"
  ne_Script_OldLine : c_Script ≠ c_OldLine
  ne_Script_NewLine : c_Script ≠ c_NewLine
  ne_Script_Ledgers : c_Script ≠ c_Ledgers
  ne_Script_Years : c_Script ≠ c_Years
  ne_OldLine_NewLine : c_OldLine ≠ c_NewLine
  ne_OldLine_Ledgers : c_OldLine ≠ c_Ledgers
  ne_OldLine_Years : c_OldLine ≠ c_Years
  ne_NewLine_Ledgers : c_NewLine ≠ c_Ledgers
  ne_NewLine_Years : c_NewLine ≠ c_Years
  ne_Ledgers_Years : c_Ledgers ≠ c_Years
  a_STEPS : Addr
  g_STEPS : mg "STEPS" = some (.ref a_STEPS)
  d_STEPS : ∀ H, Dp K H (.ref a_STEPS) (.tuple [(.tuple [(.str "make"), (.str "all")]), (.tuple [(.str "make"), (.str "standing")]), (.tuple [(.str "start"), (.str "new")]), (.tuple [(.str "start"), (.str "all")]), (.tuple [(.str "start"), (.str "free")]), (.tuple [(.str "label"), (.str "new")]), (.tuple [(.str "label"), (.str "all")]), (.tuple [(.str "label"), (.str "free")]), (.tuple [(.str "tie"), (.str "new")]), (.tuple [(.str "tie"), (.str "all")]), (.tuple [(.str "tie"), (.str "free")]), (.tuple [(.str "drop")])])
  t_MOST_STEPS : Tok
  g_MOST_STEPS : mg "MOST_STEPS" = some (.int 12 t_MOST_STEPS)
  t_MOST_LABEL : Tok
  g_MOST_LABEL : mg "MOST_LABEL" = some (.int 999999999999999999999999999999 t_MOST_LABEL)
  t_MOST_AMOUNT : Tok
  g_MOST_AMOUNT : mg "MOST_AMOUNT" = some (.int 1000000000000 t_MOST_AMOUNT)
  t_MOST_NUMBER : Tok
  g_MOST_NUMBER : mg "MOST_NUMBER" = some (.int 1000000000 t_MOST_NUMBER)
  b_len : mg "len" = none
  b_isinstance : mg "isinstance" = none
  b_int : mg "int" = none
  b_bool : mg "bool" = none
  b_str : mg "str" = none
  b_tuple : mg "tuple" = none
  b_list : mg "list" = none
  b_all : mg "all" = none
  b_max : mg "max" = none
  b_min : mg "min" = none
  b_abs : mg "abs" = none
  b_range : mg "range" = none
  b_enumerate : mg "enumerate" = none
  b_dict : mg "dict" = none
  kb_Years_do_1 : KBn K Years_do.fd ["self", "deed"] 1 ["deed"] (fun us ws => us ++ ws) (fun vs zs => vs ++ zs)
  kb_Years_do_all_1 : KBn K Years_do_all.fd ["self", "deeds"] 1 ["deeds"] (fun us ws => us ++ ws) (fun vs zs => vs ++ zs)
  kb_Years_made_of_1 : KBn K Years_made_of.fd ["self", "number"] 1 ["number"] (fun us ws => us ++ ws) (fun vs zs => vs ++ zs)
end Y
namespace Y
open PySem L2
local macro_rules | `(tactic| walk_at "y") => `(tactic| repeat (first | refine ⟨_, rfl, ?_⟩ | refine ⟨_, _, rfl, rfl, ?_⟩))
theorem iteB {A B : Prop} {c : Bool} (h1 : c = true → A) (h2 : c = false → B) : if c = true then A else B := by
  cases c with
  | true => exact h1 rfl
  | false => rw [if_neg (by decide)]; exact h2 rfl
abbrev T7 : List String := ["NoneType", "bool", "int", "str", "list", "tuple", "dict"]
def STEPSD : List PyData := [.tuple [.str "make", .str "all"], .tuple [.str "make", .str "standing"], .tuple [.str "start", .str "new"], .tuple [.str "start", .str "all"], .tuple [.str "start", .str "free"], .tuple [.str "label", .str "new"], .tuple [.str "label", .str "all"], .tuple [.str "label", .str "free"], .tuple [.str "tie", .str "new"], .tuple [.str "tie", .str "all"], .tuple [.str "tie", .str "free"], .tuple [.str "drop"]]
def isStepD : PyData → Bool
  | .tuple ds => ds.all (fun d => isTy (tyD d) "str") && STEPSD.any fun z => PyData.eqv z (.tuple ds)
  | _ => false
theorem step_is : ∀ d ∈ STEPSD, isStepD d = true ∧ SeqAt.shaped d = true ∧ imm d = true ∧ PyData.eqv d d = true := by
  intro d hd
  simp only [STEPSD, List.mem_cons, List.not_mem_nil, or_false] at hd
  rcases hd with rfl | rfl | rfl | rfl | rfl | rfl | rfl | rfl | rfl | rfl | rfl | rfl <;> decide +kernel
/-- a row of steps -/
structure Row (ds : List PyData) : Prop where
  st : ∀ d ∈ ds, d ∈ STEPSD
  len : ds.length ≤ 12
theorem imm_all : ∀ {ds : List PyData}, (∀ d ∈ ds, imm d = true) → immAll ds = true
  | [], _ => rfl
  | d :: ds, h => by
    simp only [immAll, Bool.and_eq_true]
    exact ⟨h d (by simp), imm_all (ds := ds) fun x hx => h x (List.mem_cons_of_mem d hx)⟩
theorem Row.imm {ds : List PyData} (r : Row ds) : imm (.tuple ds) = true := by
  show immAll ds = true
  exact imm_all fun d hd => (step_is d (r.st d hd)).2.2.1
theorem stepsd_shaped : SeqAt.shaped (.tuple STEPSD) = true := by decide +kernel
theorem canLay_all : ∀ {ds : List PyData}, (∀ d ∈ ds, SeqAt.shaped d = true) → PyData.canLayAll0 ds = true
  | [], _ => by simp [PyData.canLayAll0]
  | d :: ds, h => by
    have h1 := h d (by simp)
    simp only [SeqAt.shaped, Bool.and_eq_true] at h1
    simp [PyData.canLayAll0, h1.1, canLay_all (ds := ds) fun x hx => h x (List.mem_cons_of_mem d hx)]
theorem step_depth : ∀ d ∈ STEPSD, d.depth ≤ 1 := by
  intro d hd
  simp only [STEPSD, List.mem_cons, List.not_mem_nil, or_false] at hd
  rcases hd with rfl | rfl | rfl | rfl | rfl | rfl | rfl | rfl | rfl | rfl | rfl | rfl <;> decide +kernel
theorem depth_all {n : Nat} : ∀ {ds : List PyData}, (∀ d ∈ ds, d.depth ≤ n) → PyData.depthAll ds ≤ n
  | [], _ => by simp [PyData.depthAll]
  | d :: ds, h => by
    have h1 := h d (by simp)
    have h2 := depth_all (ds := ds) fun x hx => h x (List.mem_cons_of_mem d hx)
    simp only [PyData.depthAll]
    omega
theorem row_shaped {ds : List PyData} (h : ∀ d ∈ ds, d ∈ STEPSD) : SeqAt.shaped (.tuple ds) = true := by
  have h1 := depth_all fun d hd => step_depth d (h d hd)
  have h2 : PyData.depth (.tuple ds) ≤ 64 := by simp only [PyData.depth]; omega
  show (PyData.canLay0 (.tuple ds) && decide (PyData.depth (.tuple ds) ≤ 64)) = true
  rw [Bool.and_eq_true]
  exact ⟨by simp only [PyData.canLay0]; exact canLay_all fun d hd => (step_is d (h d hd)).2.1, decide_eq_true h2⟩
/-- a Script's fields -/
def kf (v : V) : List (Str × V) := putF "kept_steps" v []
theorem kf_get (v : V) : (kf v).lookup ("kept_steps" : Str) = some v := by
  unfold kf
  rw [lookup_putF, if_pos rfl]
theorem kf_no (v : V) {m : Str} (h : ¬ m = "kept_steps") : (kf v).lookup m = none := by
  unfold kf
  rw [lookup_putF, if_neg h]
  all_goals rfl
/-- a Script with the steps ds stands at a -/
def ScrAt (K : PySem.W.Frag) (C : Addr) (H : Hp) (a : Addr) (ds : List PyData) : Prop := ∃ dx v, H a = some (.ins C dx (kf v)) ∧ Dp K H v (.tuple ds)
theorem ScrAt.same {K : PySem.W.Frag} {C : Addr} {H H' : Hp} {a : Addr} {ds : List PyData} (s : Same H H') (h : ScrAt K C H a ds) : ScrAt K C H' a ds := by
  obtain ⟨dx, v, h1, h2⟩ := h
  exact ⟨dx, v, s _ _ h1, s.dp h2⟩
theorem ScrAt.but {K : PySem.W.Frag} {C p : Addr} {H H' : Hp} {a : Addr} {ds : List PyData} (s : But p H H') (n : a ≠ p) (r : Row ds) (h : ScrAt K C H a ds) : ScrAt K C H' a ds := by
  obtain ⟨dx, v, h1, h2⟩ := h
  exact ⟨dx, v, s.keep _ _ h1 n, s.dp r.imm h2⟩
theorem iteF' {A B : Prop} {c : Bool} (h : c = false) (hb : B) : if c = true then A else B := by
  rw [h]; exact iteF hb
theorem iteT' {A B : Prop} {c : Bool} (h : c = true) (hb : A) : if c = true then A else B := by
  rw [h]; exact iteT hb
theorem step_len : ∀ ds : List PyData, .tuple ds ∈ STEPSD → ds.length ≤ 1000 := by
  intro ds hd
  simp only [STEPSD, List.mem_cons, List.not_mem_nil, or_false, PyData.tuple.injEq] at hd
  rcases hd with rfl | rfl | rfl | rfl | rfl | rfl | rfl | rfl | rfl | rfl | rfl | rfl <;> decide
def spWhole (K : PySem.W.Frag) : Sp := fun vs H Q _ => ∃ (v : V) (t : String), vs = [v] ∧ TyX K H v (.type t) ∧ t ∈ T7 ∧ Q (.bl (t == "int")) H
def spIsStep (K : PySem.W.Frag) : Sp := fun vs H Q _ => ∃ v : V, vs = [v] ∧
  ((∃ d, Dp K H v d ∧ SeqAt.shaped d = true ∧ (∀ ds, d = .tuple ds → ds.length ≤ 1000) ∧ ∀ H', Same H H' → Q (.bl (isStepD d)) H') ∨ ∃ t, TyX K H v (.type t) ∧ t ∈ T7 ∧ t ≠ "tuple" ∧ Q (.bl false) H)
def spInit (K : PySem.W.Frag) (C : Addr) : Sp := fun vs H Q _ => ∃ (x dx : Addr) (v : V) (ds : List PyData), vs = [.ref x, v] ∧ H x = some (.ins C dx []) ∧ Dp K H v (.tuple ds) ∧ Row ds ∧
  ∀ H', H' x = some (.ins C dx (kf v)) → (∀ b o, H b = some o → b ≠ x → H' b = some o) → Q .non H'
def spSteps (C : Addr) : Sp := fun vs H Q _ => ∃ (a dx : Addr) (v : V), vs = [.ref a] ∧ H a = some (.ins C dx (kf v)) ∧ Q v H
def spLen (K : PySem.W.Frag) (C : Addr) : Sp := fun vs H Q _ => ∃ (a : Addr) (ds : List PyData), vs = [.ref a] ∧ ScrAt K C H a ds ∧ Q (.int ds.length) H
def spHas (K : PySem.W.Frag) (C : Addr) : Sp := fun vs H Q _ => ∃ (a : Addr) (ds : List PyData) (v : V) (t : String), vs = [.ref a, v] ∧ ScrAt K C H a ds ∧ TyX K H v (.type t) ∧ t ∈ T7 ∧
  (t ≠ "int" → Q (.bl false) H) ∧ ∀ i, v = .int i → Q (.bl (decide (0 ≤ i ∧ i < (ds.length : Int)))) H
/-- an index that is there -/
def spGet (K : PySem.W.Frag) (C : Addr) : Sp := fun vs H Q _ => ∃ (a : Addr) (ds : List PyData) (i : Nat) (d : PyData), vs = [.ref a, .int i] ∧ ScrAt K C H a ds ∧ ds[i]? = some d ∧ ∀ v, Dp K H v d → Q v H
def spIn (K : PySem.W.Frag) (C : Addr) : Sp := fun vs H Q _ => ∃ (a : Addr) (ds : List PyData) (v : V), vs = [.ref a, v] ∧ ScrAt K C H a ds ∧ (∀ d ∈ ds, d ∈ STEPSD) ∧
  ((∃ d, Dp K H v d ∧ SeqAt.shaped d = true ∧ (∀ ds, d = .tuple ds → ds.length ≤ 1000) ∧ ∀ H', Same H H' → Q (.bl (isStepD d && ds.any fun z => PyData.eqv z d)) H') ∨ ∃ t, TyX K H v (.type t) ∧ t ∈ T7 ∧ t ≠ "tuple" ∧ Q (.bl false) H)
section
variable {P : Program} {w : World} {K : PySem.W.Frag} {mg : Str → Option Value} {base : Heap}
theorem ok_is_whole (T : Tx K mg) : FnOk P w K mg base CX0 1 T.is_whole.a T.is_whole.fd ["thing"] (spWhole K) := by
  refine T.is_whole.F.ok sc_is_whole (fun vs H Q E h => by obtain ⟨v, t, rfl, _⟩ := h; rfl) (fun cdv A outer s H vs Q E hr h => ?_)
  obtain ⟨v, t, rfl, ty, ht, q⟩ := h
  refine ⟨_, (pss_one (ps_ret (pe_and (pe_callB (call_isDK K) (by rfl) T.b_isinstance (by decide +kernel) (pa_cons (pv 0) (pa_cons (pe_bltn (v := .ty "int") (by rfl) T.b_int (by decide +kernel) rfl) pa_nil))) (pe_one (pe_not (pe_callB (call_isDK K) (by rfl) T.b_isinstance (by decide +kernel) (pa_cons (pv 0) (pa_cons (pe_bltn (v := .ty "bool") (by rfl) T.b_bool (by decide +kernel) rfl) pa_nil)))))))), ?_⟩
  refine ⟨_, rfl, v, t, "int", rfl, ty, ht, by decide, _, rfl, iteB (fun c => ?_) (fun c => ?_)⟩
  · refine ⟨_, rfl, v, t, "bool", rfl, ty, ht, by decide, _, rfl, ?_⟩
    have e : (!isTy t "bool") = (t == "int") := by
      simp only [T7, List.mem_cons, List.not_mem_nil, or_false] at ht
      rcases ht with rfl | rfl | rfl | rfl | rfl | rfl | rfl <;> first | rfl | exact absurd c (by decide) | decide
    show Q (.bl (!isTy t "bool")) H
    rw [e]; exact q
  · have e : (t == "int") = false := by
      simp only [T7, List.mem_cons, List.not_mem_nil, or_false] at ht
      rcases ht with rfl | rfl | rfl | rfl | rfl | rfl | rfl <;> first | rfl | exact absurd c (by decide) | decide
    show Q (.bl false) H
    rw [← e]; exact q
theorem ok_is_step (T : Tx K mg) : FnOk P w K mg base CX0 1 T.is_step.a T.is_step.fd ["thing"] (spIsStep K) := by
  refine T.is_step.F.ok sc_is_step (fun vs H Q E h => by obtain ⟨v, rfl, _⟩ := h; rfl) (fun cdv A outer s H vs Q E hr h => ?_)
  obtain ⟨v, rfl, h⟩ := h
  refine ⟨_, (pss_one (ps_ret (pe_and (pe_callB (call_isDK K) (by rfl) T.b_isinstance (by decide +kernel) (pa_cons (pv 0) (pa_cons (pe_bltn (v := .ty "tuple") (by rfl) T.b_tuple (by decide +kernel) rfl) pa_nil))) (pe_and (pe_callB (cr_allK K rfl) (by rfl) T.b_all (by decide +kernel) (pa_cons (pe_lc (own := [("word", 1)]) (g := (gName 1)) (tt := tYes) rfl sc_is_step.nd (pi_tupK K (pv 0)) (blkOk_by (N := ["thing", "word"]) (sc := defScope s_is_step) (by decide +kernel)) (fun _ _ _ _ _ => pg_name (i := 1) sc_is_step.nd rfl (Or.inl rfl)) (fun _ _ _ _ _ => pts_nil) (fun _ _ _ _ _ => (pe_callB (call_isDK K) (by rfl) T.b_isinstance (by decide +kernel) (pa_cons (pv 1) (pa_cons (pe_bltn (v := .ty "str") (by rfl) T.b_str (by decide +kernel) rfl) pa_nil))))) pa_nil)) (pe_one (pe_cmpR (op_inTDK K (hu65 hr)) (pv 0) (pe_glob (v := .ref T.a_STEPS) rfl T.g_STEPS rfl) (by rfl))))))), ?_⟩
  rcases h with ⟨d, hd, sh, hl, q⟩ | ⟨t, ty, ht, hn, q⟩
  · refine ⟨_, rfl, v, tyD d, "tuple", rfl, hd.ty, tyD_mem d, by decide, _, rfl, iteB (fun c => ?_) (fun c => ?_)⟩
    · obtain ⟨ds, rfl⟩ : ∃ ds, d = .tuple ds := by
        cases d <;> first | exact ⟨_, rfl⟩ | (simp [tyD, isTy] at c)
      obtain ⟨a, xs, rfl, hx, hxs⟩ := hd.tup_inv
      have hlen := hxs.length
      have hl := hl ds rfl
      -- [isinstance(word, str) for word in thing]
      refine ⟨_, rfl, a, rfl, ⟨_, hx⟩, fun D nD => ?_⟩
      refine lc_tup (K := K) (a := a) (xs := xs) (fun i H' => Same H H' ∧ H' D = some (.lst ((ds.take i).map fun d => .bl (isTy (tyD d) "str")))) ⟨Same.new nD, by simp [upd_same]⟩ (fun i H' _ ⟨s, _⟩ => s.sqT hx) ?_ ?_
      · rintro i y H' hi ⟨s, hD⟩
        obtain ⟨dd, h1, h2⟩ := hxs.get' hi
        refine ⟨rfl, _, rfl, y, tyD dd, "str", rfl, (s.dp h2).ty, tyD_mem dd, by decide, _, hD, ?_, ?_⟩
        · refine small1000 ?_
          rw [List.length_map, List.length_take]; omega
        · refine ⟨s.mut nD, ?_⟩
          rw [upd_same, List.take_add_one, h1]
          simp
      · rintro H' ⟨s, hD⟩
        rw [hlen, List.take_length] at hD
        refine ⟨D, ds.map fun d => isTy (tyD d) "str", rfl, SqL.of (by rw [hD, List.map_map]; rfl), _, rfl, iteB (fun c2 => ?_) (fun c2 => ?_)⟩
        · -- thing in STEPS
          refine ⟨_, rfl, .tuple ds, STEPSD, s.dp hd, T.d_STEPS _, sh, stepsd_shaped, ?_⟩
          have e : isStepD (.tuple ds) = STEPSD.any fun z => PyData.eqv z (.tuple ds) := by
            have : (ds.all fun d => isTy (tyD d) "str") = true := by simpa [List.all_map] using c2
            simp [isStepD, this]
          have := q H' s
          rw [e] at this; exact this
        · have e : isStepD (.tuple ds) = false := by
            have : (ds.all fun d => isTy (tyD d) "str") = false := by simpa [List.all_map] using c2
            simp [isStepD, this]
          have := q H' s
          rw [e] at this; exact this
    · have e : isStepD d = false := by cases d <;> first | rfl | (simp [tyD, isTy] at c)
      have := q H (Same.refl H)
      rw [e] at this; exact this
  · refine ⟨_, rfl, v, t, "tuple", rfl, ty, ht, by decide, _, rfl, iteB (fun c => ?_) (fun c => q)⟩
    exfalso
    simp [isTy] at c
    exact hn c
theorem ok_Script_init (T : Tx K mg) : FnOk P w K mg base CX0 3 T.Script_init.a T.Script_init.fd ["self", "steps"] (spInit K T.c_Script) := by
  have G_is_step := ok_is_step (P := P) (w := w) (base := base) T
  refine T.Script_init.F.ok sc_Script_init (fun vs H Q E h => by obtain ⟨x, dx, v, ds, rfl, _⟩ := h; rfl) (fun cdv A outer s H vs Q E hr h => ?_)
  obtain ⟨x, dx, v, ds, rfl, hx, hd, r, q⟩ := h
  obtain ⟨a, xs, rfl, hq, hxs⟩ := hd.tup_inv
  have hlen := hxs.length
  have hl := r.len
  refine ⟨_, (pss_cons (ps_if (pt_not (pt_val (pe_callB (call_isDK K) (by rfl) T.b_isinstance (by decide +kernel) (pa_cons (pv 1) (pa_cons (pe_bltn (v := .ty "tuple") (by rfl) T.b_tuple (by decide +kernel) rfl) pa_nil)))))
  (pss_one ps_never)
  pss_nil)
  (pss_cons (ps_for PassesOwn.never rfl (pi_enumT (by rfl) T.b_enumerate (pa_cons (pv 1) pa_nil)) (pg_tupK K rfl (pgs_cons (pg_name (i := 2) sc_Script_init.nd rfl (Or.inl rfl)) (pgs_cons (pg_name (i := 3) sc_Script_init.nd rfl (Or.inl rfl)) pgs_nil)))
  (pss_one (ps_if (PW.pt (pw_or (pt_cmpR op_ge (pv 2) (pe_glob (v := .int 12) rfl T.g_MOST_STEPS ⟨_, rfl⟩) (nomark _)) (pw_or1 (pt_not (pt_val (pe_call G_is_step (hr.mono (by first | decide | omega)) rfl T.is_step.g T.is_step.F.kp T.is_step.b .nil pass0 (pa_cons (pv 3) pa_nil)))))))
  (pss_one ps_never)
  pss_nil)))
  (pss_one (ps_fldK K (pv 0) (pv 1) rfl)))), ?_⟩
  refine ⟨_, rfl, .ref a, "tuple", "tuple", rfl, hd.ty, by decide, by decide, _, rfl, ?_⟩
  refine iteF ?_
  -- for index, step in enumerate(steps)
  refine ⟨_, rfl, a, xs, rfl, hq, for_enumT (K := K) (a := a) (xs := xs) (fun i σ H' => Same H H' ∧ ∃ v2 v3, σ = [some (.ref x), some (.ref a), v2, v3]) ⟨Same.refl H, none, none, rfl⟩ (fun i σ H' _ ⟨s, _⟩ => s.sqT hq) ?_ ?_⟩
  · rintro i y T0 σ H' hi ⟨s, v2, v3, rfl⟩ nT
    obtain ⟨dd, h1, h2⟩ := hxs.get' hi
    have hst := r.st dd (List.mem_of_getElem? h1)
    have s2 : Same H (upd H' T0 (.tup [.int (i : Nat), y])) := s.add nT
    refine ⟨T0, _, rfl, SqT.of upd_same, rfl, _, _, rfl, _, _, rfl, rfl, ?_⟩
    refine ⟨_, rfl, _, _, rfl, rfl, _, rfl, iteF' ?_ ?_⟩
    · simp only [decide_eq_false_iff_not]
      have := (List.getElem?_eq_some_iff.mp h1).1
      omega
    · refine ⟨_, rfl, y, rfl, .inl ⟨dd, s2.dp h2, (step_is dd hst).2.1, ?_, fun H2 s3 => ⟨_, rfl, ?_⟩⟩⟩
      · rintro ds' rfl
        have := step_depth _ hst
        exact step_len _ hst
      · rw [(step_is dd hst).1]
        exact ⟨s2.trans s3, _, _, rfl⟩
  · rintro σ H' ⟨s, v2, v3, rfl⟩
    refine ⟨_, rfl, _, rfl, x, T.c_Script, dx, [], rfl, s _ _ hx, T.cl_Script, T.na_Script_kept_steps, by decide, ?_⟩
    exact q _ upd_same fun b o e n => by rw [upd_ne n]; exact s _ _ e
theorem ok_Script_steps (T : Tx K mg) : FnOk P w K mg base CX0 1 T.Script_steps.a T.Script_steps.fd ["self"] (spSteps T.c_Script) := by
  refine T.Script_steps.F.ok sc_Script_steps (fun vs H Q E h => by obtain ⟨a, dx, v, rfl, _⟩ := h; rfl) (fun cdv A outer s H vs Q E hr h => ?_)
  obtain ⟨a, dx, v, rfl, hx, q⟩ := h
  refine ⟨_, (pss_one (ps_ret (pe_fldK K (pv 0) rfl))), ?_⟩
  exact ⟨_, rfl, a, T.c_Script, dx, _, _, rfl, hx, T.cl_Script, T.na_Script_kept_steps, kf_get v, q⟩
end
end Y

/-! # names.py: labels, amounts, numbers, deeds -/
namespace Y
open PySem L2
local macro_rules | `(tactic| walk_at "n") => `(tactic| repeat (first | refine ⟨_, rfl, ?_⟩ | refine ⟨_, _, rfl, rfl, ?_⟩))
def isLabelD : PyData → Bool
  | .int i => decide (0 ≤ i ∧ i ≤ 999999999999999999999999999999)
  | _ => false
def isAmountD : PyData → Bool
  | .int i => decide (-1000000000000 ≤ i ∧ i ≤ 1000000000000)
  | _ => false
def isNumberD : PyData → Bool
  | .int i => decide (1 ≤ i ∧ i ≤ 1000000000)
  | _ => false
def isNoneD : PyData → Bool
  | .none => true
  | _ => false
def spNm (K : PySem.W.Frag) (f : PyData → Bool) : Sp := fun vs H Q _ => ∃ (v : V) (d : PyData), vs = [v] ∧ Dp K H v d ∧ Q (.bl (f d)) H
/-- what comes behind a deed's word -/
def isRestD (w : Str) (r : List PyData) : Bool :=
  if w = "run" then r.isEmpty else
  if w = "end" ∨ w = "own" then decide (r.length = 1) && (if w = "end" then isNumberD (r.getD 0 .none) else isLabelD (r.getD 0 .none)) else
  if r.length ≠ 2 then false else
  if w = "add" then isLabelD (r.getD 0 .none) && isAmountD (r.getD 1 .none) else
  if isNumberD (r.getD 0 .none) = false then false else
  if w = "label" ∨ w = "write label" then isLabelD (r.getD 1 .none) else
  if w = "moves" ∨ w = "write moves" then isAmountD (r.getD 1 .none) else
  if w = "tie" ∨ w = "write tie" then isNoneD (r.getD 1 .none) || isNumberD (r.getD 1 .none) else false
theorem eqv_any (w : Str) : ∀ ws : List Str, ((ws.map PyData.str).any fun z => PyData.eqv z (.str w)) = decide (w ∈ ws)
  | [] => rfl
  | a :: ws => by
    rw [List.map_cons, List.any_cons, eqv_any w ws]
    have : PyData.eqv (.str a) (.str w) = (a == w) := by simp only [PyData.eqv]
    rw [this]
    by_cases e : a = w
    · subst e; simp
    · have e' : ¬ w = a := fun z => e z.symm
      simp [e, e']
/-- w in ("a", "b") -/
theorem inS {K : PySem.W.Frag} {te tv : TE} {σ : St} {H : Hp} {w : Str} {ws : List Str} {Q : Bool → Hp → Prop} (hv : Gv K tv σ H (.str w)) (ht : Gv K te σ H (.tuple (ws.map .str))) (hw : SeqAt.shaped (.str w) = true) (hs : SeqAt.shaped (.tuple (ws.map .str)) = true) (q : ∀ H', Same H H' → Q (decide (w ∈ ws)) H') :
    tTest (tOp (rInTD K) tv te) σ H Q := by
  refine hv H (Same.refl H) _ fun v H1 s1 h1 => ht H1 s1 _ fun u H2 s2 h2 => ⟨.str w, ws.map .str, s2.dp h1, h2, hw, hs, _, rfl, ?_⟩
  rw [eqv_any]
  exact q H2 (s1.trans s2)
theorem nmAt {K : PySem.W.Frag} {te : TE} {σ : St} {H : Hp} {d : PyData} {f : PyData → Bool} {Q : VK} (h : Gv K te σ H d) (q : ∀ H', Same H H' → Q (.bl (f d)) H') : tCall (spNm K f) [] E0 (tCons te tNil) σ H Q :=
  h H (Same.refl H) _ fun v H1 s1 h1 => ⟨v, d, rfl, h1, q H1 s1⟩
theorem atI_getD {r : List PyData} {i : Nat} (h : i < r.length) : atI r (i : Int) = some (r.getD i .none) := by
  refine atI_nat ?_
  rw [List.getD_eq_getElem?_getD, List.getElem?_eq_getElem h]; rfl
theorem eqv_empty (r : List PyData) : PyData.eqv (.tuple r) (.tuple []) = r.isEmpty := by
  cases r <;> simp only [PyData.eqv, PyData.eqvAll, List.isEmpty]
theorem shaped_cons {d : PyData} {r : List PyData} (h : SeqAt.shaped (.tuple (d :: r)) = true) : SeqAt.shaped d = true ∧ SeqAt.shaped (.tuple r) = true := by
  have h : (PyData.canLay0 (.tuple (d :: r)) && decide (PyData.depth (.tuple (d :: r)) ≤ 64)) = true := h
  have g : (PyData.canLay0 d && decide (PyData.depth d ≤ 64)) = true ∧ (PyData.canLay0 (.tuple r) && decide (PyData.depth (.tuple r) ≤ 64)) = true := by
    rw [Bool.and_eq_true] at h
    obtain ⟨h1, h3⟩ := h
    have h3 := of_decide_eq_true h3
    simp only [PyData.canLay0, PyData.canLayAll0, Bool.and_eq_true] at h1
    simp only [PyData.depth, PyData.depthAll] at h3
    refine ⟨?_, ?_⟩
    · rw [Bool.and_eq_true, decide_eq_true_eq]
      exact ⟨h1.1, by omega⟩
    · rw [Bool.and_eq_true, decide_eq_true_eq]
      refine ⟨by simp only [PyData.canLay0]; exact h1.2, ?_⟩
      simp only [PyData.depth]
      omega
  exact g
def isDeedD : PyData → Bool
  | .tuple (.str w :: rest) => isRestD w rest
  | _ => false
def spDeed (K : PySem.W.Frag) : Sp := fun vs H Q _ => ∃ (v : V) (d : PyData), vs = [v] ∧ Dp K H v d ∧ SeqAt.shaped d = true ∧ (∀ ds, d = .tuple ds → ds.length ≤ 1000) ∧ ∀ H', Same H H' → Q (.bl (isDeedD d)) H'
section
variable {P : Program} {w : World} {K : PySem.W.Frag} {mg : Str → Option Value} {base : Heap}
theorem ok_is_label (T : Tx K mg) : FnOk P w K mg base CX0 2 T.is_label.a T.is_label.fd ["thing"] (spNm K isLabelD) := by
  have G_is_whole := ok_is_whole (P := P) (w := w) (base := base) T
  refine T.is_label.F.ok sc_is_label (fun vs H Q E h => by obtain ⟨v, d, rfl, _⟩ := h; rfl) (fun cdv A outer s H vs Q E hr h => ?_)
  obtain ⟨v, d, rfl, hd, q⟩ := h
  refine ⟨_, (pss_one (ps_ret (pe_and (pe_call G_is_whole (hr.mono (by first | decide | omega)) rfl T.is_whole.g T.is_whole.F.kp T.is_whole.b .nil pass0 (pa_cons (pv 0) pa_nil)) (pe_one (pe_chain op_le op_le pe_int (pv 0) (pe_glob (v := .int 999999999999999999999999999999) rfl T.g_MOST_LABEL ⟨_, rfl⟩)))))), ?_⟩
  refine ⟨_, rfl, v, tyD d, rfl, hd.ty, tyD_mem d, _, rfl, iteB (fun c => ?_) (fun c => ?_)⟩
  · obtain ⟨i, rfl⟩ : ∃ i, d = .int i := by
      cases d <;> first | exact ⟨_, rfl⟩ | (simp [tyD] at c)
    obtain rfl := hd.int_inv
    refine ⟨_, rfl, _, _, rfl, rfl, _, rfl, iteB (fun c => ?_) (fun c => ?_)⟩
    · have c := of_decide_eq_true c
      refine ⟨_, _, rfl, rfl, ?_⟩
      simpa [isLabelD, c] using q
    · have c := of_decide_eq_false c
      simpa [isLabelD, c] using q
  · have e : isLabelD d = false := by
      cases d <;> first | rfl | (simp [tyD] at c)
    rw [e] at q; exact q
theorem ok_is_amount (T : Tx K mg) : FnOk P w K mg base CX0 2 T.is_amount.a T.is_amount.fd ["thing"] (spNm K isAmountD) := by
  have G_is_whole := ok_is_whole (P := P) (w := w) (base := base) T
  refine T.is_amount.F.ok sc_is_amount (fun vs H Q E h => by obtain ⟨v, d, rfl, _⟩ := h; rfl) (fun cdv A outer s H vs Q E hr h => ?_)
  obtain ⟨v, d, rfl, hd, q⟩ := h
  refine ⟨_, (pss_one (ps_ret (pe_and (pe_call G_is_whole (hr.mono (by first | decide | omega)) rfl T.is_whole.g T.is_whole.F.kp T.is_whole.b .nil pass0 (pa_cons (pv 0) pa_nil)) (pe_one (pe_chain op_le op_le (pe_un un_neg (pe_glob (v := .int 1000000000000) rfl T.g_MOST_AMOUNT ⟨_, rfl⟩)) (pv 0) (pe_glob (v := .int 1000000000000) rfl T.g_MOST_AMOUNT ⟨_, rfl⟩)))))), ?_⟩
  refine ⟨_, rfl, v, tyD d, rfl, hd.ty, tyD_mem d, _, rfl, iteB (fun c => ?_) (fun c => ?_)⟩
  · obtain ⟨i, rfl⟩ : ∃ i, d = .int i := by
      cases d <;> first | exact ⟨_, rfl⟩ | (simp [tyD] at c)
    obtain rfl := hd.int_inv
    refine ⟨_, rfl, _, rfl, _, _, rfl, rfl, _, rfl, iteB (fun c => ?_) (fun c => ?_)⟩
    · have c := of_decide_eq_true c
      refine ⟨_, _, rfl, rfl, ?_⟩
      simpa [isAmountD, c] using q
    · have c := of_decide_eq_false c
      simpa [isAmountD, c] using q
  · have e : isAmountD d = false := by
      cases d <;> first | rfl | (simp [tyD] at c)
    rw [e] at q; exact q
theorem ok_is_number (T : Tx K mg) : FnOk P w K mg base CX0 2 T.is_number.a T.is_number.fd ["thing"] (spNm K isNumberD) := by
  have G_is_whole := ok_is_whole (P := P) (w := w) (base := base) T
  refine T.is_number.F.ok sc_is_number (fun vs H Q E h => by obtain ⟨v, d, rfl, _⟩ := h; rfl) (fun cdv A outer s H vs Q E hr h => ?_)
  obtain ⟨v, d, rfl, hd, q⟩ := h
  refine ⟨_, (pss_one (ps_ret (pe_and (pe_call G_is_whole (hr.mono (by first | decide | omega)) rfl T.is_whole.g T.is_whole.F.kp T.is_whole.b .nil pass0 (pa_cons (pv 0) pa_nil)) (pe_one (pe_chain op_le op_le pe_int (pv 0) (pe_glob (v := .int 1000000000) rfl T.g_MOST_NUMBER ⟨_, rfl⟩)))))), ?_⟩
  refine ⟨_, rfl, v, tyD d, rfl, hd.ty, tyD_mem d, _, rfl, iteB (fun c => ?_) (fun c => ?_)⟩
  · obtain ⟨i, rfl⟩ : ∃ i, d = .int i := by
      cases d <;> first | exact ⟨_, rfl⟩ | (simp [tyD] at c)
    obtain rfl := hd.int_inv
    refine ⟨_, rfl, _, _, rfl, rfl, _, rfl, iteB (fun c => ?_) (fun c => ?_)⟩
    · have c := of_decide_eq_true c
      refine ⟨_, _, rfl, rfl, ?_⟩
      simpa [isNumberD, c] using q
    · have c := of_decide_eq_false c
      simpa [isNumberD, c] using q
  · have e : isNumberD d = false := by
      cases d <;> first | rfl | (simp [tyD] at c)
    rw [e] at q; exact q
theorem ok_is_deed (T : Tx K mg) : FnOk P w K mg base CX0 3 T.is_deed.a T.is_deed.fd ["thing"] (spDeed K) := by
  have G_is_label := ok_is_label (P := P) (w := w) (base := base) T
  have G_is_amount := ok_is_amount (P := P) (w := w) (base := base) T
  have G_is_number := ok_is_number (P := P) (w := w) (base := base) T
  refine T.is_deed.F.ok sc_is_deed (fun vs H Q E h => by obtain ⟨v, d, rfl, _⟩ := h; rfl) (fun cdv A outer s H vs Q E hr h => ?_)
  obtain ⟨v, d, rfl, hd, sh, hl, q⟩ := h
  refine ⟨_, (pss_cons (ps_if (PW.pt (pw_or (pt_not (pt_val (pe_callB (call_isDK K) (by rfl) T.b_isinstance (by decide +kernel) (pa_cons (pv 0) (pa_cons (pe_bltn (v := .ty "tuple") (by rfl) T.b_tuple (by decide +kernel) rfl) pa_nil))))) (pw_or (pt_cmpR op_eq (pe_callB (call_lenK K) (by rfl) T.b_len (by decide +kernel) (pa_cons (pv 0) pa_nil)) pe_int (nomark _)) (pw_or1 (pt_not (pt_val (pe_callB (call_isDK K) (by rfl) T.b_isinstance (by decide +kernel) (pa_cons (pe_ix (ix_tupK K) (pv 0) pe_int (fun _ _ => rfl)) (pa_cons (pe_bltn (v := .ty "str") (by rfl) T.b_str (by decide +kernel) rfl) pa_nil)))))))))
  (pss_one (ps_ret pe_bl))
  pss_nil)
  (pss_cons (ps_par (i := 1) (j := 2) rfl sc_is_deed.nd rfl rfl (by decide) rfl rfl (pa_cons (pe_ix (ix_tupK K) (pv 0) pe_int (fun _ _ => rfl)) (pa_cons (pe_slice (sl_tupK K) (pv 0) (po_some pe_int) po_no) pa_nil)) rfl)
  (pss_cons (ps_if (pt_cmpR op_eq (pv 1) pe_str (nomark _))
  (pss_one (ps_ret (pe_cmpR (op_eqDK K (hu65 hr)) (pv 2) (pe_tup pa_nil) (nomark _))))
  pss_nil)
  (pss_cons (ps_if (pt_cmpR (op_inTDK K (hu65 hr)) (pv 1) (pe_tup (pa_cons pe_str (pa_cons pe_str pa_nil))) (by rfl))
  (pss_one (ps_ret (pe_and (pe_cmpR op_eq (pe_callB (call_lenK K) (by rfl) T.b_len (by decide +kernel) (pa_cons (pv 2) pa_nil)) pe_int (nomark _)) (pe_one (pe_ifExp (pt_cmpR op_eq (pv 1) pe_str (nomark _)) (pe_call G_is_number (hr.mono (by first | decide | omega)) rfl T.is_number.g T.is_number.F.kp T.is_number.b .nil pass0 (pa_cons (pe_ix (ix_tupK K) (pv 2) pe_int (fun _ _ => rfl)) pa_nil)) (pe_call G_is_label (hr.mono (by first | decide | omega)) rfl T.is_label.g T.is_label.F.kp T.is_label.b .nil pass0 (pa_cons (pe_ix (ix_tupK K) (pv 2) pe_int (fun _ _ => rfl)) pa_nil)))))))
  pss_nil)
  (pss_cons (ps_if (pt_cmpR op_ne (pe_callB (call_lenK K) (by rfl) T.b_len (by decide +kernel) (pa_cons (pv 2) pa_nil)) pe_int (nomark _))
  (pss_one (ps_ret pe_bl))
  pss_nil)
  (pss_cons (ps_if (pt_cmpR op_eq (pv 1) pe_str (nomark _))
  (pss_one (ps_ret (pe_and (pe_call G_is_label (hr.mono (by first | decide | omega)) rfl T.is_label.g T.is_label.F.kp T.is_label.b .nil pass0 (pa_cons (pe_ix (ix_tupK K) (pv 2) pe_int (fun _ _ => rfl)) pa_nil)) (pe_one (pe_call G_is_amount (hr.mono (by first | decide | omega)) rfl T.is_amount.g T.is_amount.F.kp T.is_amount.b .nil pass0 (pa_cons (pe_ix (ix_tupK K) (pv 2) pe_int (fun _ _ => rfl)) pa_nil))))))
  pss_nil)
  (pss_cons (ps_if (pt_not (pt_val (pe_call G_is_number (hr.mono (by first | decide | omega)) rfl T.is_number.g T.is_number.F.kp T.is_number.b .nil pass0 (pa_cons (pe_ix (ix_tupK K) (pv 2) pe_int (fun _ _ => rfl)) pa_nil))))
  (pss_one (ps_ret pe_bl))
  pss_nil)
  (pss_cons (ps_if (pt_cmpR (op_inTDK K (hu65 hr)) (pv 1) (pe_tup (pa_cons pe_str (pa_cons pe_str pa_nil))) (by rfl))
  (pss_one (ps_ret (pe_call G_is_label (hr.mono (by first | decide | omega)) rfl T.is_label.g T.is_label.F.kp T.is_label.b .nil pass0 (pa_cons (pe_ix (ix_tupK K) (pv 2) pe_int (fun _ _ => rfl)) pa_nil))))
  pss_nil)
  (pss_cons (ps_if (pt_cmpR (op_inTDK K (hu65 hr)) (pv 1) (pe_tup (pa_cons pe_str (pa_cons pe_str pa_nil))) (by rfl))
  (pss_one (ps_ret (pe_call G_is_amount (hr.mono (by first | decide | omega)) rfl T.is_amount.g T.is_amount.F.kp T.is_amount.b .nil pass0 (pa_cons (pe_ix (ix_tupK K) (pv 2) pe_int (fun _ _ => rfl)) pa_nil))))
  pss_nil)
  (pss_one (ps_ret (pe_and (pe_cmpR (op_inTDK K (hu65 hr)) (pv 1) (pe_tup (pa_cons pe_str (pa_cons pe_str pa_nil))) (by rfl)) (pe_one (pe_or (pe_cmpR op_isN (pe_ix (ix_tupK K) (pv 2) pe_int (fun _ _ => rfl)) pe_non (nomark _)) (pe_one (pe_call G_is_number (hr.mono (by first | decide | omega)) rfl T.is_number.g T.is_number.F.kp T.is_number.b .nil pass0 (pa_cons (pe_ix (ix_tupK K) (pv 2) pe_int (fun _ _ => rfl)) pa_nil))))))))))))))))), ?_⟩
  refine ⟨_, rfl, v, tyD d, "tuple", rfl, hd.ty, tyD_mem d, by decide, _, rfl, iteB (fun c => ?_) (fun c => ?_)⟩
  · have e : isDeedD d = false := by cases d <;> first | rfl | (simp [tyD, isTy] at c)
    have := q H (Same.refl H)
    rw [e] at this; exact this
  obtain ⟨ds, rfl⟩ : ∃ ds, d = .tuple ds := by
    cases d <;> first | exact ⟨_, rfl⟩ | (simp [tyD, isTy] at c)
  have hl := hl ds rfl
  obtain ⟨a, xs, rfl, hx, hxs⟩ := hd.tup_inv
  have hlen := hxs.length
  refine ⟨_, rfl, _, xs.length, rfl, .inr ⟨xs, hx, rfl⟩, rfl, _, rfl, iteB (fun c => ?_) (fun c0 => ?_)⟩
  · have c := of_decide_eq_true c
    obtain rfl : ds = [] := by
      have : V.int (xs.length : Int) = .int 0 := c
      injection this with this
      exact List.length_eq_zero_iff.mp (by omega)
    exact q H (Same.refl H)
  cases ds with
  | nil =>
    exfalso
    rw [hlen] at c0
    exact absurd c0 (by decide)
  | cons d0 rest =>
  obtain ⟨v0, e0, h0⟩ := hxs.get (i := 0) (d := d0) rfl
  refine ⟨_, rfl, a, xs, 0, v0, rfl, rfl, hx, atI_nat e0, v0, tyD d0, "str", rfl, h0.ty, tyD_mem d0, by decide, _, rfl, iteB (fun c => ?_) (fun c => ?_)⟩
  · have e : isDeedD (.tuple (d0 :: rest)) = false := by cases d0 <;> first | rfl | (simp [tyD, isTy] at c)
    have := q H (Same.refl H)
    rw [e] at this; exact this
  obtain ⟨w, rfl⟩ : ∃ w, d0 = .str w := by
    cases d0 <;> first | exact ⟨_, rfl⟩ | (simp [tyD, isTy] at c)
  obtain rfl := h0.str_inv
  have q : ∀ H', Same H H' → Q (.bl (isRestD w rest)) H' := q
  refine ⟨_, rfl, a, xs, 0, .str w, rfl, rfl, hx, atI_nat e0, _, rfl, _, rfl, slT_from (n := 1) (z := 1) hd rfl fun u H1 s1 hu => ?_⟩
  have hu : Dp K H1 u (.tuple rest) := hu
  have ⟨shw, shr⟩ := shaped_cons sh
  refine ⟨_, _, rfl, ?_⟩
  have lr : rest.length ≤ 1000 := by simp only [List.length_cons] at hl; omega
  obtain ⟨b, ys, rfl, hy, hys⟩ := hu.tup_inv
  have lys := hys.length
  have in2 : ∀ (p q : Str) {R : Bool → Hp → Prop} {H1 : Hp} (σ : St), σ[1]? = some (some (.str w)) → SeqAt.shaped (.tuple [.str p, .str q]) = true → (∀ H', Same H1 H' → R (decide (w = p ∨ w = q)) H') → tTest (tOp (rInTD K) (tVar 1) (tTup (tCons (tC (.str p)) (tCons (tC (.str q)) tNil)))) σ H1 R :=
    fun p q R H1 σ h1 sh' k => inS (ws := [p, q]) (gv_varS h1) (gv_tup (gs_cons gv_str (gs_cons gv_str gs_nil)) (by simp)) shw sh' fun H' s' => by
      have e : decide (w ∈ [p, q]) = decide (w = p ∨ w = q) := by simp
      rw [e]; exact k H' s'
  refine ⟨_, rfl, rfl, _, rfl, iteB (fun c => ?_) (fun c => ?_)⟩
  · -- rest == ()
    have e : w = "run" := by
      have := of_decide_eq_true c
      injection this
    have q : ∀ H', Same H H' → Q (.bl rest.isEmpty) H' := fun H' s => by
      have := q H' s
      unfold isRestD at this
      rw [if_pos e] at this; exact this
    refine ⟨_, rfl, line_of (by decide), fun p hp => ⟨.tuple rest, .tuple [], (Same.new hp).dp hu, .tupOf upd_same .nil, shr, by decide +kernel, ?_⟩⟩
    rw [eqv_empty]
    exact q _ (s1.add hp)
  have n1 : ¬ w = "run" := fun z => by rw [z] at c; exact absurd c (by decide)
  unfold isRestD at q
  rw [if_neg n1] at q
  have at0 : ∀ (σ : St) (H2 : Hp) (i : Nat), σ[2]? = some (some (.ref b)) → Same H1 H2 → i < rest.length → Gv K (tOp (rIxT K) (tVar 2) (tC (.int (i : Nat)))) σ H2 (rest.getD i .none) :=
    fun σ H2 i h1 s2 hi => gv_ixT (gv_var h1 (s2.dp hu)) gv_int (atI_getD hi)
  refine in2 _ _ _ rfl (by decide +kernel) fun H2 s2 => iteB (fun c => ?_) (fun c => ?_)
  · have c := of_decide_eq_true c
    rw [if_pos c] at q
    refine ⟨_, rfl, .ref b, ys.length, rfl, .inr ⟨ys, s2.sqT hy, rfl⟩, rfl, _, rfl, iteB (fun c2 => ?_) (fun c2 => ?_)⟩
    · have c2 : rest.length = 1 := by
        have := of_decide_eq_true c2
        injection this with this
        omega
      rw [decide_eq_true c2, Bool.true_and] at q
      refine ⟨_, rfl, rfl, _, rfl, iteB (fun c3 => ?_) (fun c3 => ?_)⟩
      · have c3 : w = "end" := by
          have := of_decide_eq_true c3
          injection this
        rw [if_pos c3] at q
        exact nmAt (at0 _ _ 0 rfl s2 (by omega)) fun H3 s3 => q H3 ((s1.trans s2).trans s3)
      · have c3 : ¬ w = "end" := fun z => by rw [z] at c3; exact absurd c3 (by decide)
        rw [if_neg c3] at q
        exact nmAt (at0 _ _ 0 rfl s2 (by omega)) fun H3 s3 => q H3 ((s1.trans s2).trans s3)
    · have c2 : ¬ rest.length = 1 := fun z => by
        rw [lys, z] at c2; exact absurd c2 (by decide)
      rw [decide_eq_false c2, Bool.false_and] at q
      exact q H2 (s1.trans s2)
  have c := of_decide_eq_false c
  rw [if_neg c] at q
  have s12 := s1.trans s2
  refine ⟨_, rfl, .ref b, ys.length, rfl, .inr ⟨ys, s2.sqT hy, rfl⟩, rfl, _, rfl, iteB (fun c2 => ?_) (fun c2 => ?_)⟩
  · have c2 : rest.length ≠ 2 := fun z => by rw [lys, z] at c2; exact absurd c2 (by decide)
    rw [if_pos c2] at q
    exact q H2 s12
  have c2 : rest.length = 2 := by
    rw [lys] at c2
    have := by simpa using c2
    omega
  rw [if_neg (fun z => z c2)] at q
  refine ⟨_, rfl, rfl, _, rfl, iteB (fun c3 => ?_) (fun c3 => ?_)⟩
  · have c3 : w = "add" := by
      have := of_decide_eq_true c3
      injection this
    rw [if_pos c3] at q
    refine nmAt (at0 _ _ 0 rfl s2 (by omega)) fun H3 s3 => ⟨_, rfl, iteB (fun c4 => ?_) (fun c4 => ?_)⟩
    · rw [c4, Bool.true_and] at q
      exact nmAt (at0 _ _ 1 rfl (s2.trans s3) (by omega)) fun H4 s4 => q H4 ((s12.trans s3).trans s4)
    · rw [c4, Bool.false_and] at q
      exact q H3 (s12.trans s3)
  have c3 : ¬ w = "add" := fun z => by rw [z] at c3; exact absurd c3 (by decide)
  rw [if_neg c3] at q
  refine nmAt (at0 _ _ 0 rfl s2 (by omega)) fun H3 s3 => ⟨_, rfl, iteB (fun c4 => ?_) (fun c4 => ?_)⟩
  · rw [if_pos (by simpa using c4)] at q
    exact q H3 (s12.trans s3)
  rw [if_neg (by simpa using c4)] at q
  have s13 := s12.trans s3
  refine in2 _ _ _ rfl (by decide +kernel) fun H4 s4 => iteB (fun c5 => ?_) (fun c5 => ?_)
  · rw [if_pos (of_decide_eq_true c5)] at q
    exact nmAt (at0 _ _ 1 rfl ((s2.trans s3).trans s4) (by omega)) fun H5 s5 => q H5 ((s13.trans s4).trans s5)
  rw [if_neg (of_decide_eq_false c5)] at q
  refine in2 _ _ _ rfl (by decide +kernel) fun H5 s5 => iteB (fun c6 => ?_) (fun c6 => ?_)
  · rw [if_pos (of_decide_eq_true c6)] at q
    exact nmAt (at0 _ _ 1 rfl (((s2.trans s3).trans s4).trans s5) (by omega)) fun H6 s6 => q H6 (((s13.trans s4).trans s5).trans s6)
  rw [if_neg (of_decide_eq_false c6)] at q
  refine in2 _ _ _ rfl (by decide +kernel) fun H6 s6 => iteB (fun c7 => ?_) (fun c7 => ?_)
  · rw [if_pos (of_decide_eq_true c7)] at q
    have s16 := ((s13.trans s4).trans s5).trans s6
    refine (at0 _ _ 1 rfl ((((s2.trans s3).trans s4).trans s5).trans s6) (by omega)).go fun v H7 s7 hv => ⟨rfl, _, rfl, iteB (fun c8 => ?_) (fun c8 => ?_)⟩
    · have e := of_decide_eq_true c8
      subst e
      have e : isNoneD (rest.getD 1 .none) = true := by
        generalize rest.getD 1 .none = d at hv
        cases hv; rfl
      rw [e, Bool.true_or] at q
      exact q H7 (s16.trans s7)
    · have e : isNoneD (rest.getD 1 .none) = false := by
        generalize rest.getD 1 .none = d at hv
        cases hv <;> first | rfl | exact absurd c8 (by decide)
      rw [e, Bool.false_or] at q
      exact nmAt (at0 _ _ 1 rfl (((((s2.trans s3).trans s4).trans s5).trans s6).trans s7) (by omega)) fun H8 s8 => q H8 ((s16.trans s7).trans s8)
  · rw [if_neg (of_decide_eq_false c7)] at q
    exact q H6 (((s13.trans s4).trans s5).trans s6)
end
end Y

/-! # plays.py: the lines and the ledgers -/
namespace Y
open PySem L2 M
/-- the classes of the ledgers -/
def c3 {K : PySem.W.Frag} {mg : Str → Option Value} (T : Tx K mg) : C3 := ⟨T.c_OldLine, T.c_NewLine, T.c_Ledgers, T.ne_OldLine_NewLine, T.ne_OldLine_Ledgers, T.ne_NewLine_Ledgers⟩
def tD : Option Int → PyData
  | none => .none
  | some i => .int i
theorem dp_tv {K : PySem.W.Frag} {H : Hp} (t : Option Int) : Dp K H (tv t) (tD t) := by
  cases t with
  | none => exact .non
  | some i => exact .int i
def oRow (n : Int) (o : OL) : PyData := .tuple [.int n, .int o.label, .int o.start, .int o.moves, tD o.tie, .bool o.standing]
def nRow (n : NL) : PyData := .tuple [.int n.number, .int n.label, .int n.start, .int n.moves, tD n.tie, tD n.source]
theorem gv_fld {K : PySem.W.Frag} {σ : St} {H : Hp} {i : Nat} {f : Str} {x C dx : Addr} {fs : List (Str × V)} {v : V} {d : PyData} (h : σ[i]? = some (some (.ref x))) (hx : H x = some (.ins C dx fs)) (c : Cls K C) (n : NoAttr K C f) (l : fs.lookup f = some v) (hd : Dp K H v d) : Gv K (tFld K (tVar i) f) σ H d :=
  fun H1 s1 Q q => ⟨_, h, x, C, dx, fs, v, rfl, s1 _ _ hx, c, n, l, q v H1 (Same.refl H1) (s1.dp hd)⟩
theorem updN {H : Hp} {p x : Addr} {o : HO} (h : upd H p o x = none) : x ≠ p ∧ H x = none := by
  by_cases e : x = p
  · rw [e, upd_same] at h; cases h
  · rw [upd_ne e] at h; exact ⟨e, h⟩
theorem LedP.toA {C : C3} {S : Addr → Prop} {H : Hp} {a : Addr} {L : Led} {B : Nat} {da l1 l2 l3 d : Addr} {os : List (Addr × OL)} {ns : NS} (P : LedP C S H a L B da l1 l2 l3 d os ns) : LedAt C S H a L B := ⟨_, _, _, _, _, _, _, P⟩
def spOInit (C : Addr) : Sp := fun vs H Q _ => ∃ (x dx : Addr) (n l s : Int), vs = [.ref x, .int n, .int l, .int s] ∧ H x = some (.ins C dx []) ∧ Q .non (upd H x (.ins C dx (oF n ⟨l, s, 0, none, true⟩)))
def spORow (K : PySem.W.Frag) (C : Addr) : Sp := fun vs H Q _ => ∃ (x dx : Addr) (n : Int) (o : OL), vs = [.ref x] ∧ H x = some (.ins C dx (oF n o)) ∧ ∀ v H', Same H H' → Dp K H' v (oRow n o) → Q v H'
def spNRow (K : PySem.W.Frag) (C : Addr) : Sp := fun vs H Q _ => ∃ (x dx t : Addr) (n : NL), vs = [.ref x] ∧ H x = some (.ins C dx (nF n t)) ∧ ∀ v H', Same H H' → Dp K H' v (nRow n) → Q v H'
/-- the ledgers, just made -/
def spLInit (C : C3) : Sp := fun vs H Q _ => ∃ (a da : Addr) (S : Addr → Prop), vs = [.ref a] ∧ H a = some (.ins C.l da []) ∧ Dom S H ∧ S a ∧ ∀ H', LedAt C S H' a Led.init 0 → Keep S H H' → Q .non H'
def oRows (L : Led) : List PyData := L.elder.mapIdx fun i o => oRow ((i : Int) + 1) o
def nRows (L : Led) : List PyData := L.later.map nRow
theorem mem_oRows {L : Led} {d : PyData} (h : d ∈ oRows L) : ∃ (j : Int) (o : OL), d = oRow j o := by
  obtain ⟨i, hi⟩ := List.mem_iff_getElem?.mp h
  rw [oRows, List.getElem?_mapIdx] at hi
  obtain ⟨o, _, rfl⟩ := Option.map_eq_some_iff.mp hi
  exact ⟨_, o, rfl⟩
/-- a deed as data -/
def dD : Deed → PyData
  | .add l a => .tuple [.str "add", .int l, .int a]
  | .label n l => .tuple [.str "label", .int n, .int l]
  | .moves n a => .tuple [.str "moves", .int n, .int a]
  | .tie n m => .tuple [.str "tie", .int n, tD m]
  | .fin n => .tuple [.str "end", .int n]
  | .own l => .tuple [.str "own", .int l]
  | .wlabel n l => .tuple [.str "write label", .int n, .int l]
  | .wmoves n a => .tuple [.str "write moves", .int n, .int a]
  | .wtie n m => .tuple [.str "write tie", .int n, tD m]
  | .run => .tuple [.str "run"]
theorem imm_tD (m : Option Int) : imm (tD m) = true := by cases m <;> rfl
theorem imm_dD (x : Deed) : imm (dD x) = true := by
  cases x <;> simp [dD, imm, immAll, imm_tD]
def isOld : Deed → Bool
  | .add _ _ => true
  | .label _ _ => true
  | .moves _ _ => true
  | .tie _ _ => true
  | .fin _ => true
  | _ => false
/-- a deed's values -/
def dV : Deed → List V
  | .add l a => [.str "add", .int l, .int a]
  | .label n l => [.str "label", .int n, .int l]
  | .moves n a => [.str "moves", .int n, .int a]
  | .tie n m => [.str "tie", .int n, tv m]
  | .fin n => [.str "end", .int n]
  | .own l => [.str "own", .int l]
  | .wlabel n l => [.str "write label", .int n, .int l]
  | .wmoves n a => [.str "write moves", .int n, .int a]
  | .wtie n m => [.str "write tie", .int n, tv m]
  | .run => [.str "run"]
theorem tD_inv {K : PySem.W.Frag} {H : Hp} {v : V} {m : Option Int} (h : Dp K H v (tD m)) : v = tv m := by
  cases m with
  | none => exact h.non_inv
  | some i => exact h.int_inv
theorem dD_inv {K : PySem.W.Frag} {H : Hp} {v : V} {x : Deed} (h : Dp K H v (dD x)) : ∃ a, v = .ref a ∧ SqT K H a (dV x) := by
  have h3 : ∀ {a b c : PyData} {va vb vc : V}, (∀ v, Dp K H v a → v = va) → (∀ v, Dp K H v b → v = vb) → (∀ v, Dp K H v c → v = vc) → Dp K H v (.tuple [a, b, c]) → ∃ p, v = .ref p ∧ SqT K H p [va, vb, vc] := fun ha hb hc h => by
    obtain ⟨p, xs, rfl, hq, hx⟩ := h.tup_inv
    cases hx with
    | cons h1 hx => cases hx with
      | cons h2 hx => cases hx with
        | cons h3 hx => cases hx; rw [ha _ h1, hb _ h2, hc _ h3] at hq; exact ⟨p, rfl, hq⟩
  have h2 : ∀ {a b : PyData} {va vb : V}, (∀ v, Dp K H v a → v = va) → (∀ v, Dp K H v b → v = vb) → Dp K H v (.tuple [a, b]) → ∃ p, v = .ref p ∧ SqT K H p [va, vb] := fun ha hb h => by
    obtain ⟨p, xs, rfl, hq, hx⟩ := h.tup_inv
    cases hx with
    | cons h1 hx => cases hx with
      | cons h2 hx => cases hx; rw [ha _ h1, hb _ h2] at hq; exact ⟨p, rfl, hq⟩
  have h1 : ∀ {a : PyData} {va : V}, (∀ v, Dp K H v a → v = va) → Dp K H v (.tuple [a]) → ∃ p, v = .ref p ∧ SqT K H p [va] := fun ha h => by
    obtain ⟨p, xs, rfl, hq, hx⟩ := h.tup_inv
    cases hx with
    | cons h1 hx => cases hx; rw [ha _ h1] at hq; exact ⟨p, rfl, hq⟩
  cases x with
  | add => exact h3 (fun _ h => h.str_inv) (fun _ h => h.int_inv) (fun _ h => h.int_inv) h
  | label => exact h3 (fun _ h => h.str_inv) (fun _ h => h.int_inv) (fun _ h => h.int_inv) h
  | moves => exact h3 (fun _ h => h.str_inv) (fun _ h => h.int_inv) (fun _ h => h.int_inv) h
  | tie => exact h3 (fun _ h => h.str_inv) (fun _ h => h.int_inv) (fun _ h => tD_inv h) h
  | fin => exact h2 (fun _ h => h.str_inv) (fun _ h => h.int_inv) h
  | own => exact h2 (fun _ h => h.str_inv) (fun _ h => h.int_inv) h
  | wlabel => exact h3 (fun _ h => h.str_inv) (fun _ h => h.int_inv) (fun _ h => h.int_inv) h
  | wmoves => exact h3 (fun _ h => h.str_inv) (fun _ h => h.int_inv) (fun _ h => h.int_inv) h
  | wtie => exact h3 (fun _ h => h.str_inv) (fun _ h => h.int_inv) (fun _ h => tD_inv h) h
  | run => exact h1 (fun _ h => h.str_inv) h
/-- what a deed does to its old line -/
def setF : Deed → OL → OL
  | .label _ l, o => { o with label := l }
  | .moves _ a, o => { o with moves := a }
  | .tie _ m, o => { o with tie := m }
  | .fin _, o => { o with standing := false }
  | _, o => o
def isSet : Deed → Bool
  | .label _ _ => true
  | .moves _ _ => true
  | .tie _ _ => true
  | .fin _ => true
  | _ => false
def spSetField (K : PySem.W.Frag) (C : Addr) : Sp := fun vs H Q _ => ∃ (sv : V) (x dx p : Addr) (n : Int) (o : OL) (e : Deed), vs = [sv, .ref x, .ref p] ∧ H x = some (.ins C dx (oF n o)) ∧ SqT K H p (dV e) ∧ isSet e = true ∧ Q .non (upd H x (.ins C dx (oF n (setF e o))))
def spNewLine (C : C3) : Sp := fun vs H Q _ => ∃ (a : Addr) (n : Int) (S : Addr → Prop) (L : Led) (B : Nat) (da l1 l2 l3 d : Addr) (os : List (Addr × OL)) (ns : NS), vs = [.ref a, .int n] ∧ LedP C S H a L B da l1 l2 l3 d os ns ∧ B ≤ 5000 ∧
  ∀ H', Same H H' → (∀ x ∈ ns, x.2.2.number = n → Q (.ref x.1) H') ∧ ((∀ x ∈ ns, x.2.2.number ≠ n) → Q .non H')
def spCheck (K : PySem.W.Frag) (C : C3) : Sp := fun vs H Q _ => ∃ (a p : Addr) (iv : V) (S : Addr → Prop) (L : Led) (B : Nat) (e : Deed), vs = [.ref a, .ref p, iv] ∧ LedAt C S H a L B ∧ B ≤ 5000 ∧ SqT K H p (dV e) ∧ okM L e ∧ ∀ H', Same H H' → Q .non H'
def spOldLine (C : Addr) : Sp := fun vs H Q _ => ∃ (a da l1 l2 l3 d : Addr) (ever n : Int) (xs : List V), vs = [.ref a, .int n] ∧ H a = some (.ins C da (lF l1 l2 l3 d ever)) ∧ H l1 = some (.lst xs) ∧
  (∀ (j : Nat) v, n = (j : Int) + 1 → xs[j]? = some v → Q v H) ∧ (¬ (1 ≤ n ∧ n ≤ (xs.length : Int)) → Q .non H)
/-- told lists are new -/
def spRows (K : PySem.W.Frag) (C : C3) : Sp := fun vs H Q _ => ∃ (a : Addr) (S : Addr → Prop) (L : Led) (B : Nat), vs = [.ref a] ∧ LedAt C S H a L B ∧ B ≤ 5000 ∧
  ∀ (t e f : Addr) (xs ys : List V) (H' : Hp), Same H H' → H t = none → H e = none → H f = none → e ≠ f → H' t = some (.tup [.ref e, .ref f]) → H' e = some (.lst xs) → H' f = some (.lst ys) →
    DpAll K H' xs (oRows L) → DpAll K H' ys (nRows L) → Q (.ref t) H'
def spNInit (C : Addr) : Sp := fun vs H Q _ => ∃ (x dx : Addr) (n l s : Int) (src : Option Int), vs = [.ref x, .int n, .int l, .int s, tv src] ∧ H x = some (.ins C dx []) ∧
  ∀ (t : Addr) (H' : Hp), H t = none → H' x = some (.ins C dx (nF ⟨n, l, s, src, 0, none, []⟩ t)) → H' t = some (.lst []) → (∀ b o, H b = some o → b ≠ x → H' b = some o) → (∀ b, H' b = none → H b = none) → Q .non H'
def spPutLine (C : C3) : Sp := fun vs H Q _ => ∃ (a : Addr) (l s : Int) (src : Option Int) (S : Addr → Prop) (L : Led) (B B' : Nat) (da l1 l2 l3 d : Addr) (os : List (Addr × OL)) (ns : NS), vs = [.ref a, .int l, .int s, tv src] ∧ LedP C S H a L B da l1 l2 l3 d os ns ∧ WF (putM L l s src) B' ∧ B ≤ 5000 ∧
  ∀ H' z, Keep S H H' → LedP C S H' a (putM L l s src) B' da l1 l2 l3 d os (ns ++ [z]) → Q (.int (L.ever + 1)) H'
/-- what a typed deed does to its new line -/
def wrF : Deed → NL → NL
  | .wlabel _ l, o => { o with label := l, typed := o.typed ++ [("label" : Str)] }
  | .wmoves _ a, o => { o with moves := a }
  | .wtie _ m, o => { o with tie := m, typed := o.typed ++ [("tie" : Str)] }
  | _, o => o
def isWr : Deed → Bool
  | .wlabel _ _ => true
  | .wmoves _ _ => true
  | .wtie _ _ => true
  | _ => false
def wrVal : Deed → V
  | .wlabel _ l => .int l
  | .wmoves _ a => .int a
  | .wtie _ m => tv m
  | _ => .non
def wrWord : Deed → Str
  | .wlabel _ _ => "write label"
  | .wmoves _ _ => "write moves"
  | .wtie _ _ => "write tie"
  | _ => ""
def spWriteField (C : Addr) : Sp := fun vs H Q _ => ∃ (sv : V) (x dx t : Addr) (o : NL) (e : Deed), vs = [sv, .ref x, .str (wrWord e), wrVal e] ∧ H x = some (.ins C dx (nF o t)) ∧ H t = some (.lst (o.typed.map V.str)) ∧ isWr e = true ∧ o.typed.length ≤ 5000 ∧
  ∀ H', H' x = some (.ins C dx (nF (wrF e o) t)) → H' t = some (.lst ((wrF e o).typed.map V.str)) → (∀ b u, H b = some u → b ≠ x → b ≠ t → H' b = some u) → (∀ b, H' b = none → H b = none) → Q .non H'
/-- what a deed returns -/
def retV (L : Led) : Deed → V
  | .add _ _ => .int (L.elder.length + 1)
  | .own _ => .int (L.ever + 1)
  | _ => .non
def spPlayDeed (K : PySem.W.Frag) (C : C3) (spR : Sp) : Sp := fun vs H Q _ => ∃ (a p : Addr) (sv : V) (S : Addr → Prop) (L : Led) (B : Nat) (e : Deed), vs = [.ref a, sv, .ref p] ∧ LedAt C S H a L B ∧ B ≤ 4990 ∧ SqT K H p (dV e) ∧ okM L e ∧
  ((e ≠ .run ∧ ∀ H', Keep S H H' → LedAt C S H' a (playM [] L e) (B + 1) → Q (retV L e) H') ∨ (e = .run ∧ spR [.ref a, sv] H Q E0))
section
variable {P : Program} {w : World} {K : PySem.W.Frag} {mg : Str → Option Value} {base : Heap}
theorem ok_OldLine_init (T : Tx K mg) : FnOk P w K mg base CX0 1 T.OldLine_init.a T.OldLine_init.fd ["self", "number", "label", "start"] (spOInit T.c_OldLine) := by
  refine T.OldLine_init.F.ok sc_OldLine_init (fun vs H Q E h => by obtain ⟨x, dx, n, l, s, rfl, _⟩ := h; rfl) (fun cdv A outer s H vs Q E hr h => ?_)
  obtain ⟨x, dx, n, l, st, rfl, hx, q⟩ := h
  refine ⟨_, (pss_cons (ps_fldK K (pv 0) (pv 1) rfl)
  (pss_cons (ps_fldK K (pv 0) (pv 2) rfl)
  (pss_cons (ps_fldK K (pv 0) (pv 3) rfl)
  (pss_cons (ps_fldK K (pv 0) pe_int rfl)
  (pss_cons (ps_fldK K (pv 0) pe_non rfl)
  (pss_one (ps_fldK K (pv 0) pe_bl rfl))))))), ?_⟩
  refine ⟨_, rfl, _, rfl, x, T.c_OldLine, dx, _, rfl, hx, T.cl_OldLine, T.na_OldLine_number, of_decide_eq_true rfl, ?_⟩
  refine ⟨_, rfl, _, rfl, x, T.c_OldLine, dx, _, rfl, upd_same, T.cl_OldLine, T.na_OldLine_label, of_decide_eq_true rfl, ?_⟩
  refine ⟨_, rfl, _, rfl, x, T.c_OldLine, dx, _, rfl, upd_same, T.cl_OldLine, T.na_OldLine_start, of_decide_eq_true rfl, ?_⟩
  refine ⟨_, rfl, x, T.c_OldLine, dx, _, rfl, upd_same, T.cl_OldLine, T.na_OldLine_moves, of_decide_eq_true rfl, ?_⟩
  refine ⟨_, rfl, x, T.c_OldLine, dx, _, rfl, upd_same, T.cl_OldLine, T.na_OldLine_tie, of_decide_eq_true rfl, ?_⟩
  refine ⟨_, rfl, x, T.c_OldLine, dx, _, rfl, upd_same, T.cl_OldLine, T.na_OldLine_standing, of_decide_eq_true rfl, ?_⟩
  rw [upd_upd, upd_upd, upd_upd, upd_upd, upd_upd]
  exact q
theorem ok_OldLine_row (T : Tx K mg) : FnOk P w K mg base CX0 1 T.OldLine_row.a T.OldLine_row.fd ["self"] (spORow K T.c_OldLine) := by
  refine T.OldLine_row.F.ok sc_OldLine_row (fun vs H Q E h => by obtain ⟨x, dx, n, o, rfl, _⟩ := h; rfl) (fun cdv A outer s H vs Q E hr h => ?_)
  obtain ⟨x, dx, n, o, rfl, hx, q⟩ := h
  refine ⟨_, (pss_one (ps_ret (pe_tup (pa_cons (pe_fldK K (pv 0) rfl) (pa_cons (pe_fldK K (pv 0) rfl) (pa_cons (pe_fldK K (pv 0) rfl) (pa_cons (pe_fldK K (pv 0) rfl) (pa_cons (pe_fldK K (pv 0) rfl) (pa_cons (pe_fldK K (pv 0) rfl) pa_nil))))))))), ?_⟩
  refine Gv.go (d := oRow n o) (gv_tup (gs_cons (gv_fld rfl hx T.cl_OldLine T.na_OldLine_number rfl (.int _)) (gs_cons (gv_fld rfl hx T.cl_OldLine T.na_OldLine_label rfl (.int _)) (gs_cons (gv_fld rfl hx T.cl_OldLine T.na_OldLine_start rfl (.int _))
    (gs_cons (gv_fld rfl hx T.cl_OldLine T.na_OldLine_moves rfl (.int _)) (gs_cons (gv_fld rfl hx T.cl_OldLine T.na_OldLine_tie rfl (dp_tv _)) (gs_cons (gv_fld rfl hx T.cl_OldLine T.na_OldLine_standing rfl (.bl _)) gs_nil)))))) (by simp)) ?_
  exact q
theorem ok_NewLine_row (T : Tx K mg) : FnOk P w K mg base CX0 1 T.NewLine_row.a T.NewLine_row.fd ["self"] (spNRow K T.c_NewLine) := by
  refine T.NewLine_row.F.ok sc_NewLine_row (fun vs H Q E h => by obtain ⟨x, dx, t, n, rfl, _⟩ := h; rfl) (fun cdv A outer s H vs Q E hr h => ?_)
  obtain ⟨x, dx, t, n, rfl, hx, q⟩ := h
  refine ⟨_, (pss_one (ps_ret (pe_tup (pa_cons (pe_fldK K (pv 0) rfl) (pa_cons (pe_fldK K (pv 0) rfl) (pa_cons (pe_fldK K (pv 0) rfl) (pa_cons (pe_fldK K (pv 0) rfl) (pa_cons (pe_fldK K (pv 0) rfl) (pa_cons (pe_fldK K (pv 0) rfl) pa_nil))))))))), ?_⟩
  refine Gv.go (d := nRow n) (gv_tup (gs_cons (gv_fld rfl hx T.cl_NewLine T.na_NewLine_number rfl (.int _)) (gs_cons (gv_fld rfl hx T.cl_NewLine T.na_NewLine_label rfl (.int _)) (gs_cons (gv_fld rfl hx T.cl_NewLine T.na_NewLine_start rfl (.int _))
    (gs_cons (gv_fld rfl hx T.cl_NewLine T.na_NewLine_moves rfl (.int _)) (gs_cons (gv_fld rfl hx T.cl_NewLine T.na_NewLine_tie rfl (dp_tv _)) (gs_cons (gv_fld rfl hx T.cl_NewLine T.na_NewLine_source rfl (dp_tv _)) gs_nil)))))) (by simp)) ?_
  exact q
theorem ok_Ledgers_init (T : Tx K mg) : FnOk P w K mg base CX0 1 T.Ledgers_init.a T.Ledgers_init.fd ["self"] (spLInit (c3 T)) := by
  refine T.Ledgers_init.F.ok sc_Ledgers_init (fun vs H Q E h => by obtain ⟨a, da, S, rfl, _⟩ := h; rfl) (fun cdv A outer s H vs Q E hr h => ?_)
  obtain ⟨a, da, S, rfl, ha, dm, sa, q⟩ := h
  refine ⟨_, (pss_cons (ps_fldK K (pv 0) (pe_lst pa_nil) rfl)
  (pss_cons (ps_fldK K (pv 0) (pe_lst pa_nil) rfl)
  (pss_cons (ps_fldK K (pv 0) pe_int rfl)
  (pss_cons (ps_fldK K (pv 0) (pe_lst pa_nil) rfl)
  (pss_one (ps_fldK K (pv 0) pe_dnewK rfl)))))), ?_⟩
  refine ⟨line_of (by decide), fun l1 n1 => ⟨_, rfl, a, T.c_Ledgers, da, _, rfl, Same.new n1 _ _ ha, T.cl_Ledgers, T.na_Ledgers_elder, of_decide_eq_true rfl, ?_⟩⟩
  refine ⟨line_of (by decide), fun l2 n2 => ⟨_, rfl, a, T.c_Ledgers, da, _, rfl, Same.new n2 _ _ upd_same, T.cl_Ledgers, T.na_Ledgers_later, of_decide_eq_true rfl, ?_⟩⟩
  refine ⟨_, rfl, a, T.c_Ledgers, da, _, rfl, upd_same, T.cl_Ledgers, T.na_Ledgers_ever, of_decide_eq_true rfl, ?_⟩
  refine ⟨line_of (by decide), fun l3 n3 => ⟨_, rfl, a, T.c_Ledgers, da, _, rfl, Same.new n3 _ _ upd_same, T.cl_Ledgers, T.na_Ledgers_fresh, of_decide_eq_true rfl, ?_⟩⟩
  refine fun d n4 => ⟨_, rfl, a, T.c_Ledgers, da, _, rfl, Same.new n4 _ _ upd_same, T.cl_Ledgers, T.na_Ledgers_ahead, of_decide_eq_true rfl, ?_⟩
  have e4 := updN n4; have e3 := updN n3; have e2 := updN n2
  have f4a := e4.1; have f4b := updN e4.2; have f4c := updN (updN f4b.2).2; have f4d := updN f4c.2; have f4e := updN f4d.2
  have f3a := e3.1; have f3b := updN (updN e3.2).2; have f3c := updN f3b.2; have f3d := updN f3c.2
  have f2a := e2.1; have f2b := updN e2.2
  have fl1 : l1 ≠ a := (ne_of_none ha n1).symm
  have la : ∀ {x : Addr} {o : HO}, x ≠ l1 → H x = some o → (∀ y, y = l1 ∨ y = l2 ∨ y = l3 ∨ y = d → x ≠ y) := fun {x o} _ e y hy z => by
    subst z
    rcases hy with rfl | rfl | rfl | rfl
    · rw [n1] at e; cases e
    · rw [f2b.2] at e; cases e
    · rw [f3d.2] at e; cases e
    · rw [(updN f4e.2).2] at e; cases e
  have f4f := updN f4e.2
  have s0 : S a ∧ S l1 ∧ S l2 ∧ S l3 ∧ S d := ⟨sa, dm _ n1, dm _ f2b.2, dm _ f3d.2, dm _ f4f.2⟩
  refine q _ ⟨da, l1, l2, l3, d, [], [], ⟨upd_same, rfl, rfl, ?_, ?_, ?_, ⟨[], rfl, ?_, fun i x t h => by simp [Led.init] at h⟩, fun j x h => by simp at h, fun x h => by simp at h, ?_, s0, fun x h => by simp at h, fun x h => by simp at h, ?_, ?_⟩⟩ ?_
  · simp only [upd, if_neg fl1, if_neg (Ne.symm f4f.1), if_neg (Ne.symm f3d.1), if_neg (Ne.symm f2b.1), if_true]; rfl
  · simp only [upd, if_neg f2a, if_neg (Ne.symm f4d.1), if_neg (Ne.symm f3b.1), if_true]; rfl
  · simp only [upd, if_neg f3a, if_neg (Ne.symm f4b.1), if_true]; rfl
  · simp only [upd, if_neg f4a, if_true]; rfl
  · simp [Ne.symm f2b.1, Ne.symm f3d.1, Ne.symm f3b.1]
  · intro x hx
    have g1 := updN hx
    have g2 := updN g1.2
    have g3 := updN (updN g2.2).2
    have g4 := updN (updN (updN g3.2).2).2
    exact dm x (updN (updN g4.2).2).2
  · exact WF.init
  · have m : ∀ {H : Hp} {C : Addr} {dx : Addr} {fs o}, H a = some (.ins C dx fs) → Keep S H (upd H a o) := fun h => Keep.mut sa (by rw [h]; trivial)
    refine ((((((((((Same.new n1).kp.trans (m (Same.new n1 _ _ ha))).trans (Same.new n2).kp).trans (m (Same.new n2 _ _ upd_same))).trans (m upd_same)).trans (Same.new n3).kp).trans (m (Same.new n3 _ _ upd_same))).trans (Same.new n4).kp)).trans (m (Same.new n4 _ _ upd_same)))
theorem ok_old_line (T : Tx K mg) : FnOk P w K mg base CX0 1 T.Ledgers_old_line.a T.Ledgers_old_line.fd ["self", "number"] (spOldLine T.c_Ledgers) := by
  refine T.Ledgers_old_line.F.ok sc_Ledgers_old_line (fun vs H Q E h => by obtain ⟨a, da, l1, l2, l3, d, ever, n, xs, rfl, _⟩ := h; rfl) (fun cdv A outer s H vs Q E hr h => ?_)
  obtain ⟨a, da, l1, l2, l3, d, ever, n, xs, rfl, ha, h1, q1, q2⟩ := h
  refine ⟨_, (pss_one (ps_ret (pe_ifExp (pt_chain op_le op_le pe_int (pv 1) (pe_callB (call_lenK K) (by rfl) T.b_len (by decide +kernel) (pa_cons (pe_fldK K (pv 0) rfl) pa_nil))) (pe_ix (ix_listK K) (pe_fldK K (pv 0) rfl) (pe_op op_sub (pv 1) pe_int) (fun _ _ => rfl)) pe_non))), ?_⟩
  refine ⟨_, rfl, _, _, rfl, rfl, _, rfl, iteB (fun c => ?_) (fun c => ?_)⟩
  · have c := of_decide_eq_true c
    refine ⟨_, rfl, a, T.c_Ledgers, da, _, _, rfl, ha, T.cl_Ledgers, T.na_Ledgers_elder, rfl, _, _, rfl, .inl ⟨xs, SqL.of h1, rfl⟩, _, _, rfl, rfl, _, rfl, iteB (fun c2 => ?_) (fun c2 => ?_)⟩
    · have c2 := of_decide_eq_true c2
      have hj : (n - 1).toNat < xs.length := by omega
      have hg := List.getElem?_eq_getElem hj
      refine ⟨_, rfl, a, T.c_Ledgers, da, _, _, rfl, ha, T.cl_Ledgers, T.na_Ledgers_elder, rfl, _, rfl, _, _, rfl, rfl, l1, xs, n - 1, _, rfl, rfl, SqL.of h1, at_of (by omega) hg, ?_⟩
      exact q1 _ _ (by omega) hg
    · have c2 := of_decide_eq_false c2
      exact q2 (by omega)
  · have c := of_decide_eq_false c
    exact ⟨_, rfl, iteF (q2 (by omega))⟩
theorem ok_rows (T : Tx K mg) : FnOk P w K mg base CX0 2 T.Ledgers_rows.a T.Ledgers_rows.fd ["self"] (spRows K (c3 T)) := by
  have G_OldLine_row := ok_OldLine_row (P := P) (w := w) (base := base) T
  have G_NewLine_row := ok_NewLine_row (P := P) (w := w) (base := base) T
  refine T.Ledgers_rows.F.ok sc_Ledgers_rows (fun vs H Q E h => by obtain ⟨a, S, L, B, rfl, _⟩ := h; rfl) (fun cdv A outer s H vs Q E hr h => ?_)
  obtain ⟨a, S, L, B, rfl, ⟨da, l1, l2, l3, d, os, ns, p⟩, hB, q⟩ := h
  refine ⟨_, (pss_one (ps_ret (pe_tup (pa_cons (pe_lc (own := [("line", 1)]) (g := (gName 1)) (tt := tYes) rfl sc_Ledgers_rows.nd (pi_listK K (pe_fldK K (pv 0) rfl)) (blkOk_by (N := ["self", "line"]) (sc := defScope s_Ledgers_rows) (by decide +kernel)) (fun _ _ _ _ _ => pg_name (i := 1) sc_Ledgers_rows.nd rfl (Or.inl rfl)) (fun _ _ _ _ _ => pts_nil) (fun _ _ _ _ _ => (pe_meth0 (pv 1) T.cl_OldLine T.OldLine_row.m G_OldLine_row (hr.mono (by first | decide | omega)) T.OldLine_row.b .nil pass0))) (pa_cons (pe_lc (own := [("line", 1)]) (g := (gName 1)) (tt := tYes) rfl sc_Ledgers_rows.nd (pi_listK K (pe_fldK K (pv 0) rfl)) (blkOk_by (N := ["self", "line"]) (sc := defScope s_Ledgers_rows) (by decide +kernel)) (fun _ _ _ _ _ => pg_name (i := 1) sc_Ledgers_rows.nd rfl (Or.inl rfl)) (fun _ _ _ _ _ => pts_nil) (fun _ _ _ _ _ => (pe_meth0 (pv 1) T.cl_NewLine T.NewLine_row.m G_NewLine_row (hr.mono (by first | decide | omega)) T.NewLine_row.b .nil pass0))) pa_nil))))), ?_⟩
  have imo : immAll (oRows L) = true := imm_all fun d hd => by
    obtain ⟨j, o, rfl⟩ := mem_oRows hd
    simp [oRow, imm, immAll, imm_tD]
  have imn : immAll (nRows L) = true := imm_all fun d hd => by
    obtain ⟨n, _, rfl⟩ := List.mem_map.mp hd
    simp [nRow, imm, immAll, imm_tD]
  have lo := p.elen
  have ln := p.llen
  have wl := p.wf.later_len
  have we := p.wf.sz
  unfold tRet tTup tCons
  refine lcMap (l := l1) (xs := os.map fun x => V.ref x.1) (ds := oRows L) (fun Q hq => ⟨_, rfl, a, T.c_Ledgers, da, _, _, rfl, p.ob, T.cl_Ledgers, T.na_Ledgers_elder, rfl, hq⟩) (SqL.of p.e) (by simp [oRows, lo]) (by simp; omega) imo (fun x => rfl) ?_ ?_
  · intro j x d' H' hx hd s
    rw [List.getElem?_map] at hx
    obtain ⟨y, hy, rfl⟩ := Option.map_eq_some_iff.mp hx
    obtain ⟨dx, hdx⟩ := p.po j y hy
    have e : d' = oRow ((j : Int) + 1) y.2 := by
      rw [oRows, List.getElem?_mapIdx, p.el, List.getElem?_map, hy] at hd
      exact (Option.some.inj hd).symm
    subst e
    intro H1 s1 Q q
    exact ⟨_, rfl, y.1, dx, _, rfl, s1 _ _ (s _ _ hdx), rfl, y.1, dx, _, _, rfl, s1 _ _ (s _ _ hdx), q⟩
  intro e xs H1 ne s1 he hxs
  refine lcMap (l := l2) (xs := ns.map fun x => V.ref x.1) (ds := nRows L) (fun Q hq => ⟨_, rfl, a, T.c_Ledgers, da, _, _, rfl, s1 _ _ p.ob, T.cl_Ledgers, T.na_Ledgers_later, rfl, hq⟩) (SqL.of (s1 _ _ p.n)) (by simp [nRows, ln]) (by simp; omega) imn (fun x => rfl) ?_ ?_
  · intro j x d' H' hx hd s
    rw [List.getElem?_map] at hx
    obtain ⟨y, hy, rfl⟩ := Option.map_eq_some_iff.mp hx
    obtain ⟨⟨dx, hdx⟩, _⟩ := p.qo y (List.mem_of_getElem? hy)
    have e : d' = nRow y.2.2 := by
      rw [nRows, List.getElem?_map, p.la, List.getElem?_map, hy] at hd
      exact (Option.some.inj hd).symm
    subst e
    intro H2 s2 Q q
    have hdx' := s2 _ _ (s _ _ (s1 _ _ hdx))
    exact ⟨_, rfl, y.1, dx, _, rfl, hdx', rfl, y.1, dx, _, _, rfl, hdx', q⟩
  intro f ys H2 nf s2 hf hys
  refine ⟨line_of (by show 2 ≤ 100000; decide), fun t ht => ?_⟩
  have s3 := Same.new (o := .tup [.ref e, .ref f]) ht
  exact q t e f xs ys _ ((s1.trans s2).trans s3) (s1.free (s2.free ht)) ne (s1.free nf) (ne_of_none he nf) upd_same (s3 _ _ (s2 _ _ he)) (s3 _ _ hf) (s3.dpAll (s2.dpAll hxs)) (s3.dpAll hys)
theorem ok_set_field (T : Tx K mg) : FnOk P w K mg base CX0 1 T.Ledgers_set_field.a T.Ledgers_set_field.fd ["self", "line", "deed"] (spSetField K T.c_OldLine) := by
  refine T.Ledgers_set_field.F.ok sc_Ledgers_set_field (fun vs H Q E h => by obtain ⟨sv, x, dx, p, n, o, e, rfl, _⟩ := h; rfl) (fun cdv A outer s H vs Q E hr h => ?_)
  obtain ⟨sv, x, dx, p, n, o, e, rfl, hx, hp, he, q⟩ := h
  refine ⟨_, (pss_one (ps_if (pt_cmpR op_eq (pe_ix (ix_tupK K) (pv 2) pe_int (fun _ _ => rfl)) pe_str (nomark _))
  (pss_one (ps_fldK K (pv 1) pe_bl rfl))
  (pss_one (ps_if (pt_cmpR op_eq (pe_ix (ix_tupK K) (pv 2) pe_int (fun _ _ => rfl)) pe_str (nomark _))
  (pss_one (ps_fldK K (pv 1) (pe_ix (ix_tupK K) (pv 2) pe_int (fun _ _ => rfl)) rfl))
  (pss_one (ps_if (pt_cmpR op_eq (pe_ix (ix_tupK K) (pv 2) pe_int (fun _ _ => rfl)) pe_str (nomark _))
  (pss_one (ps_fldK K (pv 1) (pe_ix (ix_tupK K) (pv 2) pe_int (fun _ _ => rfl)) rfl))
  (pss_one (ps_fldK K (pv 1) (pe_ix (ix_tupK K) (pv 2) pe_int (fun _ _ => rfl)) rfl)))))))), ?_⟩
  have i0 : atI (dV e) 0 = some ((dV e).getD 0 .non) := by cases e <;> rfl
  cases e with
  | fin m =>
    refine ⟨_, rfl, p, _, 0, .str "end", rfl, rfl, hp, rfl, rfl, _, rfl, iteT' rfl ?_⟩
    refine ⟨_, rfl, x, T.c_OldLine, dx, _, rfl, hx, T.cl_OldLine, T.na_OldLine_standing, of_decide_eq_true rfl, ?_⟩
    exact q
  | label m l =>
    refine ⟨_, rfl, p, _, 0, .str "label", rfl, rfl, hp, rfl, rfl, _, rfl, iteF' rfl ?_⟩
    refine ⟨_, rfl, p, _, 0, .str "label", rfl, rfl, hp, rfl, rfl, _, rfl, iteT' rfl ?_⟩
    refine ⟨_, rfl, p, _, 2, .int l, rfl, rfl, hp, rfl, _, rfl, x, T.c_OldLine, dx, _, rfl, hx, T.cl_OldLine, T.na_OldLine_label, of_decide_eq_true rfl, ?_⟩
    exact q
  | moves m l =>
    refine ⟨_, rfl, p, _, 0, .str "moves", rfl, rfl, hp, rfl, rfl, _, rfl, iteF' rfl ?_⟩
    refine ⟨_, rfl, p, _, 0, .str "moves", rfl, rfl, hp, rfl, rfl, _, rfl, iteF' rfl ?_⟩
    refine ⟨_, rfl, p, _, 0, .str "moves", rfl, rfl, hp, rfl, rfl, _, rfl, iteT' rfl ?_⟩
    refine ⟨_, rfl, p, _, 2, .int l, rfl, rfl, hp, rfl, _, rfl, x, T.c_OldLine, dx, _, rfl, hx, T.cl_OldLine, T.na_OldLine_moves, of_decide_eq_true rfl, ?_⟩
    exact q
  | tie m l =>
    refine ⟨_, rfl, p, _, 0, .str "tie", rfl, rfl, hp, rfl, rfl, _, rfl, iteF' rfl ?_⟩
    refine ⟨_, rfl, p, _, 0, .str "tie", rfl, rfl, hp, rfl, rfl, _, rfl, iteF' rfl ?_⟩
    refine ⟨_, rfl, p, _, 0, .str "tie", rfl, rfl, hp, rfl, rfl, _, rfl, iteF' rfl ?_⟩
    refine ⟨_, rfl, p, _, 2, tv l, rfl, rfl, hp, rfl, _, rfl, x, T.c_OldLine, dx, _, rfl, hx, T.cl_OldLine, T.na_OldLine_tie, of_decide_eq_true rfl, ?_⟩
    exact q
  | _ => simp [isSet] at he
theorem ok_new_line (T : Tx K mg) : FnOk P w K mg base CX0 1 T.Ledgers_new_line.a T.Ledgers_new_line.fd ["self", "number"] (spNewLine (c3 T)) := by
  refine T.Ledgers_new_line.F.ok sc_Ledgers_new_line (fun vs H Q E h => by obtain ⟨a, n, S, L, B, da, l1, l2, l3, d, os, ns, rfl, _⟩ := h; rfl) (fun cdv A outer s H vs Q E hr h => ?_)
  obtain ⟨a, n, S, L, B, da, l1, l2, l3, d, os, ns, rfl, p, hB, q⟩ := h
  refine ⟨_, (pss_cons (ps_setLc (i := 2) (own := [("line", 3)]) (g := (gName 3)) (tt := _) rfl sc_Ledgers_new_line.nd rfl rfl (sw_true rfl rfl rfl (by decide +kernel)) (pi_listK K (pe_fldK K (pv 0) rfl)) (blkOk_by (N := ["self", "number", "found", "line"]) (sc := defScope s_Ledgers_new_line) (by decide +kernel)) (fun _ _ _ _ _ => pg_name (i := 3) sc_Ledgers_new_line.nd rfl (Or.inl rfl)) (fun _ _ _ _ _ => pts_one (pt_cmpR op_eq (pe_fldK K (pv 3) rfl) (pv 1) (nomark _))) (fun _ _ _ _ _ => (pv 3)))
  (pss_one (ps_ret (pe_ifExp (pt_cmpR (op_neE K (hu65 hr)) (pv 2) (pe_lst pa_nil) (nomark _)) (pe_ix (ix_listK K) (pv 2) pe_int (fun _ _ => rfl)) pe_non)))), ?_⟩
  have wl := p.wf.later_len
  have ln := p.llen
  unfold tSeq tAsg
  refine lcFM (l := l2) ns (fun x => V.ref x.1) (fun x => V.ref x.1) (fun x => decide (x.2.2.number = n)) (fun Q hq => ⟨_, rfl, a, T.c_Ledgers, da, _, _, rfl, p.ob, T.cl_Ledgers, T.na_Ledgers_later, rfl, hq⟩) (SqL.of p.n) (by omega) (fun x => rfl) ?_ ?_ ?_
  · intro j x H' hx s R hR
    obtain ⟨⟨dx, h1⟩, _⟩ := p.qo x (List.mem_of_getElem? hx)
    refine ⟨_, rfl, x.1, T.c_NewLine, dx, _, _, rfl, s _ _ h1, T.cl_NewLine, T.na_NewLine_number, rfl, _, rfl, rfl, _, rfl, ?_⟩
    have e : decide (V.int x.2.2.number = V.int n) = decide (x.2.2.number = n) := by simp
    rw [e]; exact hR H' (Same.refl H')
  · intro j x H' hx hf s R hR
    exact ⟨_, rfl, hR H' (Same.refl H')⟩
  intro D H' nD s hD
  refine ⟨_, rfl, line_of (Nat.zero_le _), fun e ne => ?_⟩
  have s2 : Same H (upd H' e (.lst [])) := s.trans (Same.new ne)
  obtain ⟨q1, q2⟩ := q _ s2
  refine ⟨D, e, _, rfl, rfl, SqL.of (Same.new ne _ _ hD), SqL.of upd_same, _, rfl, ?_⟩
  cases hf : ns.filter (fun x => decide (x.2.2.number = n)) with
  | nil =>
    refine iteF' rfl (q2 fun x hx e => ?_)
    have : x ∈ ns.filter (fun x => decide (x.2.2.number = n)) := List.mem_filter.mpr ⟨hx, decide_eq_true e⟩
    rw [hf] at this; cases this
  | cons x r =>
    rw [hf] at hD
    have hx : x ∈ ns.filter (fun x => decide (x.2.2.number = n)) := by rw [hf]; simp
    refine iteT' rfl ⟨_, rfl, D, _, 0, .ref x.1, rfl, rfl, SqL.of (Same.new ne _ _ hD), atI_nat (j := 0) rfl, ?_⟩
    exact q1 x (List.mem_filter.mp hx).1 (of_decide_eq_true (List.mem_filter.mp hx).2)
theorem ok_check (T : Tx K mg) : FnOk P w K mg base CX0 2 T.Ledgers_check.a T.Ledgers_check.fd ["self", "deed", "index"] (spCheck K (c3 T)) := by
  have G_Ledgers_old_line := ok_old_line (P := P) (w := w) (base := base) T
  have G_Ledgers_new_line := ok_new_line (P := P) (w := w) (base := base) T
  refine T.Ledgers_check.F.ok sc_Ledgers_check (fun vs H Q E h => by obtain ⟨a, p, iv, S, L, B, e, rfl, _⟩ := h; rfl) (fun cdv A outer s H vs Q E hr h => ?_)
  obtain ⟨a, p, iv, S, L, B, e, rfl, ⟨da, l1, l2, l3, d, os, ns, lp⟩, hB, hp, ok, q⟩ := h
  refine ⟨_, (pss_cons (ps_set (i := 3) sc_Ledgers_check.nd rfl (Or.inl rfl) (pe_ix (ix_tupK K) (pv 1) pe_int (fun _ _ => rfl)))
  (C8.pss_cut (ps_if (pt_cmpR (op_inTDK K (hu65 hr)) (pv 3) (pe_tup (pa_cons pe_str (pa_cons pe_str (pa_cons pe_str (pa_cons pe_str pa_nil))))) (by rfl))
  (pss_cons (ps_set (i := 4) sc_Ledgers_check.nd rfl (Or.inl rfl) (pe_ifExp (pt_cmpR op_eq (pv 3) pe_str (nomark _)) (pe_lst (pa_cons (pe_ix (ix_tupK K) (pv 1) pe_int (fun _ _ => rfl)) (pa_cons (pe_ix (ix_tupK K) (pv 1) pe_int (fun _ _ => rfl)) pa_nil))) (pe_lst (pa_cons (pe_ix (ix_tupK K) (pv 1) pe_int (fun _ _ => rfl)) pa_nil))))
  (pss_one (ps_setLc (i := 5) (own := [("number", 6)]) (g := (gName 6)) (tt := _) rfl sc_Ledgers_check.nd rfl rfl (sw_true rfl rfl rfl (by decide +kernel)) (pi_listK K (pv 4)) (blkOk_by (N := ["self", "deed", "index", "word", "numbers", "lacking", "number"]) (sc := defScope s_Ledgers_check) (by decide +kernel)) (fun _ _ _ _ _ => pg_name (i := 6) sc_Ledgers_check.nd rfl (Or.inl rfl)) (fun _ _ _ _ _ => pts_one (PW.pt (pw_and (pt_cmpR op_notN (pv 6) pe_non (nomark _)) (pw_and1 (pt_cmpR op_isN (pe_meth (pv 0) T.cl_Ledgers T.Ledgers_old_line.m G_Ledgers_old_line (hr.mono (by first | decide | omega)) T.Ledgers_old_line.b .nil pass0 (pa_cons (pv 6) pa_nil)) pe_non (nomark _)))))) (fun _ _ _ _ _ => (pv 6)))))
  (pss_one (ps_if (pt_cmpR (op_inTDK K (hu65 hr)) (pv 3) (pe_tup (pa_cons pe_str (pa_cons pe_str (pa_cons pe_str pa_nil)))) (by rfl))
  (pss_cons (ps_set (i := 4) sc_Ledgers_check.nd rfl (Or.inl rfl) (pe_ifExp (pt_cmpR op_eq (pv 3) pe_str (nomark _)) (pe_lst (pa_cons (pe_ix (ix_tupK K) (pv 1) pe_int (fun _ _ => rfl)) (pa_cons (pe_ix (ix_tupK K) (pv 1) pe_int (fun _ _ => rfl)) pa_nil))) (pe_lst (pa_cons (pe_ix (ix_tupK K) (pv 1) pe_int (fun _ _ => rfl)) pa_nil))))
  (pss_one (ps_setLc (i := 5) (own := [("number", 6)]) (g := (gName 6)) (tt := _) rfl sc_Ledgers_check.nd rfl rfl (sw_true rfl rfl rfl (by decide +kernel)) (pi_listK K (pv 4)) (blkOk_by (N := ["self", "deed", "index", "word", "numbers", "lacking", "number"]) (sc := defScope s_Ledgers_check) (by decide +kernel)) (fun _ _ _ _ _ => pg_name (i := 6) sc_Ledgers_check.nd rfl (Or.inl rfl)) (fun _ _ _ _ _ => pts_one (PW.pt (pw_and (pt_cmpR op_notN (pv 6) pe_non (nomark _)) (pw_and1 (pt_cmpR op_isN (pe_meth (pv 0) T.cl_Ledgers T.Ledgers_new_line.m G_Ledgers_new_line (hr.mono (by first | decide | omega)) T.Ledgers_new_line.b .nil pass0 (pa_cons (pv 6) pa_nil)) pe_non (nomark _)))))) (fun _ _ _ _ _ => (pv 6)))))
  (pss_one (ps_set (i := 5) sc_Ledgers_check.nd rfl (Or.inl rfl) (pe_lst pa_nil))))))
  (pss_one (ps_if (pt_cmpR (op_neE K (hu65 hr)) (pv 5) (pe_lst pa_nil) (nomark _))
  (pss_one ps_never)
  pss_nil)))), ?_⟩
  have shO : SeqAt.shaped (.tuple ((["label", "moves", "tie", "end"] : List Str).map .str)) = true := by decide +kernel
  have shN : SeqAt.shaped (.tuple ((["write label", "write moves", "write tie"] : List Str).map .str)) = true := by decide +kernel
  have gO : ∀ (σ : St) (H : Hp), Gv K (tTup (tCons (tC (.str "label")) (tCons (tC (.str "moves")) (tCons (tC (.str "tie")) (tCons (tC (.str "end")) tNil))))) σ H (.tuple ((["label", "moves", "tie", "end"] : List Str).map .str)) := fun σ H => gv_tup (gs_cons gv_str (gs_cons gv_str (gs_cons gv_str (gs_cons gv_str gs_nil)))) (by simp)
  have gN : ∀ (σ : St) (H : Hp), Gv K (tTup (tCons (tC (.str "write label")) (tCons (tC (.str "write moves")) (tCons (tC (.str "write tie")) tNil)))) σ H (.tuple ((["write label", "write moves", "write tie"] : List Str).map .str)) := fun σ H => gv_tup (gs_cons gv_str (gs_cons gv_str (gs_cons gv_str gs_nil))) (by simp)
  have cO : ∀ (np : Addr) (w : V) (ms : List (Option Int)) (H1 : Hp) (Q : VK), Same H H1 → H1 np = some (.lst (ms.map tv)) → ms.length ≤ 2 → (∀ m ∈ ms, ∀ k, m = some k → inO L k) → (∀ D H', Same H1 H' → H' D = some (.lst []) → Q (.ref D) H') →
      tLc (iList K (tVar 4)) (gName 6) (tAnd (tTest (tOp (fun x y H Q => y = V.non ∧ Q (V.bl !decide (x = V.non)) H) (tVar 6) (tC V.non))) (tTest (tOp (fun x y H Q => y = V.non ∧ Q (V.bl (decide (x = V.non))) H) (tMeth T.c_Ledgers "old_line" (spOldLine T.c_Ledgers) [] E0 (tVar 0) (tCons (tVar 6) tNil)) (tC V.non)))) (tVar 6) [6]
        [some (.ref a), some (.ref p), some iv, some w, some (.ref np), none, none] H1 Q := by
    intro np w ms H1 Q s1 hnp hms hok q
    refine lcFM (l := np) ms tv tv (fun _ => false) (fun Q hq => ⟨_, rfl, hq⟩) (SqL.of hnp) (by omega) (fun x => rfl) ?_ (fun _ _ _ _ h => by cases h) ?_
    · intro j m H' hm s R hR
      refine ⟨_, rfl, rfl, _, rfl, ?_⟩
      cases m with
      | none => exact iteF' rfl (hR H' (Same.refl H'))
      | some k =>
        have hk := hok (some k) (List.mem_of_getElem? hm) k rfl
        have sl := s1.trans s
        refine iteT' rfl ⟨_, rfl, a, da, _, rfl, sl _ _ lp.ob, rfl, _, rfl, a, da, l1, l2, l3, d, L.ever, k, _, rfl, sl _ _ lp.ob, sl _ _ lp.e, ?_, ?_⟩
        · intro j v e hv
          rw [List.getElem?_map] at hv
          obtain ⟨y, _, rfl⟩ := Option.map_eq_some_iff.mp hv
          exact ⟨rfl, _, rfl, hR H' (Same.refl H')⟩
        · intro hn
          exfalso
          refine hn ?_
          rw [List.length_map, ← lp.elen]; exact hk
    · intro D H' nD s hD
      refine q D H' s ?_
      rw [hD]; simp
  have cN : ∀ (np : Addr) (w : V) (ms : List (Option Int)) (H1 : Hp) (Q : VK), Same H H1 → H1 np = some (.lst (ms.map tv)) → ms.length ≤ 2 → (∀ m ∈ ms, ∀ k, m = some k → inN L k) → (∀ D H', Same H1 H' → H' D = some (.lst []) → Q (.ref D) H') →
      tLc (iList K (tVar 4)) (gName 6) (tAnd (tTest (tOp (fun x y H Q => y = V.non ∧ Q (V.bl !decide (x = V.non)) H) (tVar 6) (tC V.non))) (tTest (tOp (fun x y H Q => y = V.non ∧ Q (V.bl (decide (x = V.non))) H) (tMeth T.c_Ledgers "new_line" (spNewLine (c3 T)) [] E0 (tVar 0) (tCons (tVar 6) tNil)) (tC V.non)))) (tVar 6) [6]
        [some (.ref a), some (.ref p), some iv, some w, some (.ref np), none, none] H1 Q := by
    intro np w ms H1 Q s1 hnp hms hok q
    refine lcFM (l := np) ms tv tv (fun _ => false) (fun Q hq => ⟨_, rfl, hq⟩) (SqL.of hnp) (by omega) (fun x => rfl) ?_ (fun _ _ _ _ h => by cases h) ?_
    · intro j m H' hm s R hR
      refine ⟨_, rfl, rfl, _, rfl, ?_⟩
      cases m with
      | none => exact iteF' rfl (hR H' (Same.refl H'))
      | some k =>
        have hk := hok (some k) (List.mem_of_getElem? hm) k rfl
        have sl := s1.trans s
        refine iteT' rfl ⟨_, rfl, a, da, _, rfl, sl _ _ lp.ob, rfl, _, rfl, a, k, S, L, B, da, l1, l2, l3, d, os, ns, rfl, lp.same sl, hB, fun H2 s2 => ⟨fun x hx e => ⟨rfl, _, rfl, hR H2 s2⟩, fun hn => ?_⟩⟩
        exfalso
        unfold inN nums at hk
        rw [lp.la, List.map_map] at hk
        obtain ⟨x, hx, e⟩ := List.mem_map.mp hk
        exact hn x hx e
    · intro D H' nD s hD
      refine q D H' s ?_
      rw [hD]; simp
  have fin : ∀ (w : V) (v4 : Option V) (H' : Hp) (D : Addr), Same H H' → H' D = some (.lst []) → tIfS (tTest (tOp (rNeE K) (tVar 5) (tLst tNil))) tNever tNext { nx := fun x H' => Q V.non H', rt := Q } [some (.ref a), some (.ref p), some iv, some w, v4, some (.ref D), none] H' := by
    intro w v4 H' D s hD
    refine ⟨_, rfl, line_of (Nat.zero_le _), fun e ne => ?_⟩
    exact ⟨D, e, [], rfl, rfl, SqL.of (Same.new ne _ _ hD), SqL.of upd_same, _, rfl, iteF' rfl (q _ (s.trans (Same.new ne)))⟩
  cases e with
  | label n l =>
    refine ⟨_, rfl, p, _, 0, .str "label", rfl, rfl, hp, rfl, ?_⟩
    refine ⟨fun σ' H' => Same H H' ∧ ∃ v4 D, σ' = [some (.ref a), some (.ref p), some iv, some (.str "label"), v4, some (.ref D), none] ∧ H' D = some (.lst []), ?_, fun σ' H' ⟨s, v4, D, e, hD⟩ => by subst e; exact fin _ _ _ _ s hD⟩
    refine inS (ws := ["label", "moves", "tie", "end"]) (gv_varS rfl) (gO _ _) (by decide +kernel) shO fun H1 s1 => iteT' (by decide) ?_
    refine ⟨_, rfl, rfl, _, rfl, iteF' rfl ⟨_, rfl, p, _, 1, .int n, rfl, rfl, s1.sqT hp, rfl, line_of (by show 1 ≤ 100000; decide), fun np nn => ?_⟩⟩
    dsimp only [gName_app, tAsg_app]
    refine cO np _ [some n] _ _ (s1.add nn) upd_same (by simp) (fun m hm k e => by cases List.mem_singleton.mp hm; cases e; exact ok) fun D H2 s2 hD => ?_
    exact ⟨(s1.add nn).trans s2, _, D, rfl, hD⟩
  | moves n l =>
    refine ⟨_, rfl, p, _, 0, .str "moves", rfl, rfl, hp, rfl, ?_⟩
    refine ⟨fun σ' H' => Same H H' ∧ ∃ v4 D, σ' = [some (.ref a), some (.ref p), some iv, some (.str "moves"), v4, some (.ref D), none] ∧ H' D = some (.lst []), ?_, fun σ' H' ⟨s, v4, D, e, hD⟩ => by subst e; exact fin _ _ _ _ s hD⟩
    refine inS (ws := ["label", "moves", "tie", "end"]) (gv_varS rfl) (gO _ _) (by decide +kernel) shO fun H1 s1 => iteT' (by decide) ?_
    refine ⟨_, rfl, rfl, _, rfl, iteF' rfl ⟨_, rfl, p, _, 1, .int n, rfl, rfl, s1.sqT hp, rfl, line_of (by show 1 ≤ 100000; decide), fun np nn => ?_⟩⟩
    dsimp only [gName_app, tAsg_app]
    refine cO np _ [some n] _ _ (s1.add nn) upd_same (by simp) (fun m hm k e => by cases List.mem_singleton.mp hm; cases e; exact ok) fun D H2 s2 hD => ?_
    exact ⟨(s1.add nn).trans s2, _, D, rfl, hD⟩
  | tie n m =>
    refine ⟨_, rfl, p, _, 0, .str "tie", rfl, rfl, hp, rfl, ?_⟩
    refine ⟨fun σ' H' => Same H H' ∧ ∃ v4 D, σ' = [some (.ref a), some (.ref p), some iv, some (.str "tie"), v4, some (.ref D), none] ∧ H' D = some (.lst []), ?_, fun σ' H' ⟨s, v4, D, e, hD⟩ => by subst e; exact fin _ _ _ _ s hD⟩
    refine inS (ws := ["label", "moves", "tie", "end"]) (gv_varS rfl) (gO _ _) (by decide +kernel) shO fun H1 s1 => iteT' (by decide) ?_
    refine ⟨_, rfl, rfl, _, rfl, iteT' rfl ⟨_, rfl, p, _, 1, .int n, rfl, rfl, s1.sqT hp, rfl, _, rfl, p, _, 2, tv m, rfl, rfl, s1.sqT hp, rfl, line_of (by show 2 ≤ 100000; decide), fun np nn => ?_⟩⟩
    dsimp only [gName_app, tAsg_app]
    refine cO np _ [some n, m] _ _ (s1.add nn) upd_same (by simp) (fun k hk j e => (List.mem_cons.mp hk).elim (fun h => by rw [h] at e; cases e; exact ok.1) fun h => by rw [List.mem_singleton.mp h] at e; exact ok.2 j e) fun D H2 s2 hD => ?_
    exact ⟨(s1.add nn).trans s2, _, D, rfl, hD⟩
  | fin n =>
    refine ⟨_, rfl, p, _, 0, .str "end", rfl, rfl, hp, rfl, ?_⟩
    refine ⟨fun σ' H' => Same H H' ∧ ∃ v4 D, σ' = [some (.ref a), some (.ref p), some iv, some (.str "end"), v4, some (.ref D), none] ∧ H' D = some (.lst []), ?_, fun σ' H' ⟨s, v4, D, e, hD⟩ => by subst e; exact fin _ _ _ _ s hD⟩
    refine inS (ws := ["label", "moves", "tie", "end"]) (gv_varS rfl) (gO _ _) (by decide +kernel) shO fun H1 s1 => iteT' (by decide) ?_
    refine ⟨_, rfl, rfl, _, rfl, iteF' rfl ⟨_, rfl, p, _, 1, .int n, rfl, rfl, s1.sqT hp, rfl, line_of (by show 1 ≤ 100000; decide), fun np nn => ?_⟩⟩
    dsimp only [gName_app, tAsg_app]
    refine cO np _ [some n] _ _ (s1.add nn) upd_same (by simp) (fun m hm k e => by cases List.mem_singleton.mp hm; cases e; exact ok) fun D H2 s2 hD => ?_
    exact ⟨(s1.add nn).trans s2, _, D, rfl, hD⟩
  | wlabel n l =>
    refine ⟨_, rfl, p, _, 0, .str "write label", rfl, rfl, hp, rfl, ?_⟩
    refine ⟨fun σ' H' => Same H H' ∧ ∃ v4 D, σ' = [some (.ref a), some (.ref p), some iv, some (.str "write label"), v4, some (.ref D), none] ∧ H' D = some (.lst []), ?_, fun σ' H' ⟨s, v4, D, e, hD⟩ => by subst e; exact fin _ _ _ _ s hD⟩
    refine inS (ws := ["label", "moves", "tie", "end"]) (gv_varS rfl) (gO _ _) (by decide +kernel) shO fun H0 s0 => iteF' (by decide) ?_
    refine inS (ws := ["write label", "write moves", "write tie"]) (gv_varS rfl) (gN _ _) (by decide +kernel) shN fun H1 s01 => ?_
    have s1 := s0.trans s01
    refine iteT' (by decide) ?_
    refine ⟨_, rfl, rfl, _, rfl, iteF' rfl ⟨_, rfl, p, _, 1, .int n, rfl, rfl, s1.sqT hp, rfl, line_of (by show 1 ≤ 100000; decide), fun np nn => ?_⟩⟩
    dsimp only [gName_app, tAsg_app]
    refine cN np _ [some n] _ _ (s1.add nn) upd_same (by simp) (fun m hm k e => by cases List.mem_singleton.mp hm; cases e; exact ok) fun D H2 s2 hD => ?_
    exact ⟨(s1.add nn).trans s2, _, D, rfl, hD⟩
  | wmoves n l =>
    refine ⟨_, rfl, p, _, 0, .str "write moves", rfl, rfl, hp, rfl, ?_⟩
    refine ⟨fun σ' H' => Same H H' ∧ ∃ v4 D, σ' = [some (.ref a), some (.ref p), some iv, some (.str "write moves"), v4, some (.ref D), none] ∧ H' D = some (.lst []), ?_, fun σ' H' ⟨s, v4, D, e, hD⟩ => by subst e; exact fin _ _ _ _ s hD⟩
    refine inS (ws := ["label", "moves", "tie", "end"]) (gv_varS rfl) (gO _ _) (by decide +kernel) shO fun H0 s0 => iteF' (by decide) ?_
    refine inS (ws := ["write label", "write moves", "write tie"]) (gv_varS rfl) (gN _ _) (by decide +kernel) shN fun H1 s01 => ?_
    have s1 := s0.trans s01
    refine iteT' (by decide) ?_
    refine ⟨_, rfl, rfl, _, rfl, iteF' rfl ⟨_, rfl, p, _, 1, .int n, rfl, rfl, s1.sqT hp, rfl, line_of (by show 1 ≤ 100000; decide), fun np nn => ?_⟩⟩
    dsimp only [gName_app, tAsg_app]
    refine cN np _ [some n] _ _ (s1.add nn) upd_same (by simp) (fun m hm k e => by cases List.mem_singleton.mp hm; cases e; exact ok) fun D H2 s2 hD => ?_
    exact ⟨(s1.add nn).trans s2, _, D, rfl, hD⟩
  | wtie n m =>
    refine ⟨_, rfl, p, _, 0, .str "write tie", rfl, rfl, hp, rfl, ?_⟩
    refine ⟨fun σ' H' => Same H H' ∧ ∃ v4 D, σ' = [some (.ref a), some (.ref p), some iv, some (.str "write tie"), v4, some (.ref D), none] ∧ H' D = some (.lst []), ?_, fun σ' H' ⟨s, v4, D, e, hD⟩ => by subst e; exact fin _ _ _ _ s hD⟩
    refine inS (ws := ["label", "moves", "tie", "end"]) (gv_varS rfl) (gO _ _) (by decide +kernel) shO fun H0 s0 => iteF' (by decide) ?_
    refine inS (ws := ["write label", "write moves", "write tie"]) (gv_varS rfl) (gN _ _) (by decide +kernel) shN fun H1 s01 => ?_
    have s1 := s0.trans s01
    refine iteT' (by decide) ?_
    refine ⟨_, rfl, rfl, _, rfl, iteT' rfl ⟨_, rfl, p, _, 1, .int n, rfl, rfl, s1.sqT hp, rfl, _, rfl, p, _, 2, tv m, rfl, rfl, s1.sqT hp, rfl, line_of (by show 2 ≤ 100000; decide), fun np nn => ?_⟩⟩
    dsimp only [gName_app, tAsg_app]
    refine cN np _ [some n, m] _ _ (s1.add nn) upd_same (by simp) (fun k hk j e => (List.mem_cons.mp hk).elim (fun h => by rw [h] at e; cases e; exact ok.1) fun h => by rw [List.mem_singleton.mp h] at e; exact ok.2 j e) fun D H2 s2 hD => ?_
    exact ⟨(s1.add nn).trans s2, _, D, rfl, hD⟩
  | add l m =>
    refine ⟨_, rfl, p, _, 0, .str "add", rfl, rfl, hp, rfl, ?_⟩
    refine ⟨fun σ' H' => Same H H' ∧ ∃ v4 D, σ' = [some (.ref a), some (.ref p), some iv, some (.str "add"), v4, some (.ref D), none] ∧ H' D = some (.lst []), ?_, fun σ' H' ⟨s, v4, D, e, hD⟩ => by subst e; exact fin _ _ _ _ s hD⟩
    refine inS (ws := ["label", "moves", "tie", "end"]) (gv_varS rfl) (gO _ _) (by decide +kernel) shO fun H0 s0 => iteF' (by decide) ?_
    refine inS (ws := ["write label", "write moves", "write tie"]) (gv_varS rfl) (gN _ _) (by decide +kernel) shN fun H1 s01 => ?_
    have s1 := s0.trans s01
    refine iteF' (by decide) ⟨line_of (Nat.zero_le _), fun D nD => ?_⟩
    exact ⟨s1.add nD, none, D, rfl, upd_same⟩
  | own l =>
    refine ⟨_, rfl, p, _, 0, .str "own", rfl, rfl, hp, rfl, ?_⟩
    refine ⟨fun σ' H' => Same H H' ∧ ∃ v4 D, σ' = [some (.ref a), some (.ref p), some iv, some (.str "own"), v4, some (.ref D), none] ∧ H' D = some (.lst []), ?_, fun σ' H' ⟨s, v4, D, e, hD⟩ => by subst e; exact fin _ _ _ _ s hD⟩
    refine inS (ws := ["label", "moves", "tie", "end"]) (gv_varS rfl) (gO _ _) (by decide +kernel) shO fun H0 s0 => iteF' (by decide) ?_
    refine inS (ws := ["write label", "write moves", "write tie"]) (gv_varS rfl) (gN _ _) (by decide +kernel) shN fun H1 s01 => ?_
    have s1 := s0.trans s01
    refine iteF' (by decide) ⟨line_of (Nat.zero_le _), fun D nD => ?_⟩
    exact ⟨s1.add nD, none, D, rfl, upd_same⟩
  | run =>
    refine ⟨_, rfl, p, _, 0, .str "run", rfl, rfl, hp, rfl, ?_⟩
    refine ⟨fun σ' H' => Same H H' ∧ ∃ v4 D, σ' = [some (.ref a), some (.ref p), some iv, some (.str "run"), v4, some (.ref D), none] ∧ H' D = some (.lst []), ?_, fun σ' H' ⟨s, v4, D, e, hD⟩ => by subst e; exact fin _ _ _ _ s hD⟩
    refine inS (ws := ["label", "moves", "tie", "end"]) (gv_varS rfl) (gO _ _) (by decide +kernel) shO fun H0 s0 => iteF' (by decide) ?_
    refine inS (ws := ["write label", "write moves", "write tie"]) (gv_varS rfl) (gN _ _) (by decide +kernel) shN fun H1 s01 => ?_
    have s1 := s0.trans s01
    refine iteF' (by decide) ⟨line_of (Nat.zero_le _), fun D nD => ?_⟩
    exact ⟨s1.add nD, none, D, rfl, upd_same⟩
theorem ok_NewLine_init (T : Tx K mg) : FnOk P w K mg base CX0 1 T.NewLine_init.a T.NewLine_init.fd ["self", "number", "label", "start", "source"] (spNInit T.c_NewLine) := by
  refine T.NewLine_init.F.ok sc_NewLine_init (fun vs H Q E h => by obtain ⟨x, dx, n, l, s, src, rfl, _⟩ := h; rfl) (fun cdv A outer s H vs Q E hr h => ?_)
  obtain ⟨x, dx, n, l, st, src, rfl, hx, q⟩ := h
  refine ⟨_, (pss_cons (ps_fldK K (pv 0) (pv 1) rfl)
  (pss_cons (ps_fldK K (pv 0) (pv 2) rfl)
  (pss_cons (ps_fldK K (pv 0) (pv 3) rfl)
  (pss_cons (ps_fldK K (pv 0) (pv 4) rfl)
  (pss_cons (ps_fldK K (pv 0) pe_int rfl)
  (pss_cons (ps_fldK K (pv 0) pe_non rfl)
  (pss_one (ps_fldK K (pv 0) (pe_lst pa_nil) rfl)))))))), ?_⟩
  refine ⟨_, rfl, _, rfl, x, T.c_NewLine, dx, _, rfl, hx, T.cl_NewLine, T.na_NewLine_number, of_decide_eq_true rfl, ?_⟩
  refine ⟨_, rfl, _, rfl, x, T.c_NewLine, dx, _, rfl, upd_same, T.cl_NewLine, T.na_NewLine_label, of_decide_eq_true rfl, ?_⟩
  refine ⟨_, rfl, _, rfl, x, T.c_NewLine, dx, _, rfl, upd_same, T.cl_NewLine, T.na_NewLine_start, of_decide_eq_true rfl, ?_⟩
  refine ⟨_, rfl, _, rfl, x, T.c_NewLine, dx, _, rfl, upd_same, T.cl_NewLine, T.na_NewLine_source, of_decide_eq_true rfl, ?_⟩
  refine ⟨_, rfl, x, T.c_NewLine, dx, _, rfl, upd_same, T.cl_NewLine, T.na_NewLine_moves, of_decide_eq_true rfl, ?_⟩
  refine ⟨_, rfl, x, T.c_NewLine, dx, _, rfl, upd_same, T.cl_NewLine, T.na_NewLine_tie, of_decide_eq_true rfl, ?_⟩
  refine ⟨line_of (Nat.zero_le _), fun t nt => ⟨_, rfl, x, T.c_NewLine, dx, _, rfl, Same.new nt _ _ upd_same, T.cl_NewLine, T.na_NewLine_typed, of_decide_eq_true rfl, ?_⟩⟩
  rw [upd_upd, upd_upd, upd_upd, upd_upd, upd_upd] at nt ⊢
  have n1 := updN nt
  refine q t _ n1.2 upd_same (by rw [upd_ne n1.1, upd_same]) (fun b o hb hne => ?_) fun b hb => ?_
  · rw [upd_ne hne, upd_ne (ne_of_none hb n1.2), upd_ne hne]; exact hb
  · exact (updN (updN (updN hb).2).2).2
theorem ok_put_line (T : Tx K mg) : FnOk P w K mg base CX0 3 T.Ledgers_put_line.a T.Ledgers_put_line.fd ["self", "label", "start", "source"] (spPutLine (c3 T)) := by
  have G_NewLine_init := ok_NewLine_init (P := P) (w := w) (base := base) T
  refine T.Ledgers_put_line.F.ok sc_Ledgers_put_line (fun vs H Q E h => by obtain ⟨a, l, s, src, S, L, B, B', da, l1, l2, l3, d, os, ns, rfl, _⟩ := h; rfl) (fun cdv A outer s H vs Q E hr h => ?_)
  obtain ⟨a, l, st, src, S, L, B, B', da, l1, l2, l3, d, os, ns, rfl, p, wf, hB, q⟩ := h
  refine ⟨_, (pss_cons (ps_fldaug (pv 0) pe_int in_add)
  (pss_cons (ps_expr (pe_bmK2 K PySem.F.plainAttrs_list PySem.F.slot_list_append PySem.F.type_list_append mt_append (pe_fldK K (pv 0) rfl) (pa_cons (pe_make T.mk_NewLine G_NewLine_init (hr.mono (by first | decide | omega)) rfl T.g_NewLine T.NewLine_init.b .nil pass0 (pa_cons (pe_fldK K (pv 0) rfl) (pa_cons (pv 1) (pa_cons (pv 2) (pa_cons (pv 3) pa_nil))))) pa_nil)))
  (pss_one (ps_ret (pe_fldK K (pv 0) rfl))))), ?_⟩
  have n3 := nd3 p.ld
  have la : l2 ≠ a := ne_of p.n p.ob (by intro z; cases z)
  refine ⟨_, rfl, a, T.c_Ledgers, da, _, _, rfl, p.ob, T.cl_Ledgers, T.na_Ledgers_ever, rfl, L.ever, 1, rfl, rfl, da, _, p.ob, of_decide_eq_true rfl, ?_⟩
  have h2 : upd H a (.ins T.c_Ledgers da (putF "ever" (.int (L.ever + 1)) (lF l1 l2 l3 d L.ever))) l2 = some (.lst (ns.map fun x => V.ref x.1)) := by rw [upd_ne la]; exact p.n
  refine ⟨_, rfl, a, T.c_Ledgers, da, _, _, rfl, upd_same, T.cl_Ledgers, T.na_Ledgers_later, rfl, .inl ⟨rfl, _, SqL.of h2⟩, ?_⟩
  refine ⟨_, rfl, a, T.c_Ledgers, da, _, _, rfl, upd_same, T.cl_Ledgers, T.na_Ledgers_ever, rfl, _, rfl, _, rfl, _, rfl, fun x dx nx ndx ndx2 => ?_⟩
  have nx0 := updN nx
  have ndx0 := updN ndx
  refine ⟨x, dx, L.ever + 1, l, st, src, rfl, upd_same, fun t H' nt hx' ht' k hd => ⟨rfl, ?_⟩⟩
  have nt1 := updN nt
  have nt2 := updN nt1.2
  have nt3 := updN nt2.2
  have keep : ∀ b o, H b = some o → b ≠ a → H' b = some o := fun b o e n => by
    have nbx : b ≠ x := ne_of_none e nx0.2
    refine k b o ?_ nbx
    rw [upd_ne nbx, upd_ne (ne_of_none e ndx0.2), upd_ne n]; exact e
  have ha' : H' a = some (.ins T.c_Ledgers da (lF l1 l2 l3 d (L.ever + 1))) := by
    refine k a _ ?_ (Ne.symm nx0.1)
    rw [upd_ne (Ne.symm nx0.1), upd_ne (Ne.symm ndx0.1), upd_same]; rfl
  have hl2 := keep _ _ p.n la
  have wl := p.wf.later_len
  have ln := p.llen
  refine ⟨l2, _, .ref x, rfl, rfl, hl2, line_lt (by rw [List.length_map]; omega), ?_⟩
  have ha2 : upd H' l2 (.lst ((ns.map fun x => V.ref x.1) ++ [.ref x])) a = some (.ins T.c_Ledgers da (lF l1 l2 l3 d (L.ever + 1))) := by rw [upd_ne (Ne.symm la)]; exact ha'
  refine ⟨_, rfl, a, T.c_Ledgers, da, _, _, rfl, ha2, T.cl_Ledgers, T.na_Ledgers_ever, rfl, ?_⟩
  have nl2x : l2 ≠ x := ne_of_none p.n nx0.2
  have nl2t : l2 ≠ t := ne_of_none p.n nt3.2
  have hdd : ∀ b, upd H' l2 (.lst ((ns.map fun x => V.ref x.1) ++ [.ref x])) b = none → H b = none := fun b hb => (updN (updN (updN (hd b (updN hb).2)).2).2).2
  have keep2 : ∀ b o, H b = some o → b ≠ a → b ≠ l2 → upd H' l2 (.lst ((ns.map fun x => V.ref x.1) ++ [.ref x])) b = some o := fun b o e n1 n2 => by rw [upd_ne n2]; exact keep b o e n1
  refine q _ (x, t, ⟨L.ever + 1, l, st, src, 0, none, []⟩) ⟨fun b o e n => keep2 b o e (fun z => n (by rw [z]; exact p.sa.1)) (fun z => n (by rw [z]; exact p.sa.2.2.1)), ?_⟩ ?_
  · exact tups_of (p := a) (q := l2) (by rw [p.ob]; trivial) (by rw [p.n]; trivial) keep2
  · exact p.addNew (dx := dx) (by rw [upd_ne (Ne.symm nl2x)]; exact hx') nx0.2 (by rw [upd_ne (Ne.symm nl2t)]; exact ht') nt3.2 rfl ha2 upd_same keep2 hdd wf
theorem ok_write_field (T : Tx K mg) : FnOk P w K mg base CX0 1 T.Ledgers_write_field.a T.Ledgers_write_field.fd ["self", "line", "word", "value"] (spWriteField T.c_NewLine) := by
  refine T.Ledgers_write_field.F.ok sc_Ledgers_write_field (fun vs H Q E h => by obtain ⟨sv, x, dx, t, o, e, rfl, _⟩ := h; rfl) (fun cdv A outer s H vs Q E hr h => ?_)
  obtain ⟨sv, x, dx, t, o, e, rfl, hx, ht, he, hl, q⟩ := h
  refine ⟨_, (pss_one (ps_if (pt_cmpR op_eq (pv 2) pe_str (nomark _))
  (pss_one (ps_fldK K (pv 1) (pv 3) rfl))
  (pss_one (ps_if (pt_cmpR op_eq (pv 2) pe_str (nomark _))
  (pss_cons (ps_fldK K (pv 1) (pv 3) rfl)
  (pss_one (ps_expr (pe_bmK2 K PySem.F.plainAttrs_list PySem.F.slot_list_append PySem.F.type_list_append mt_append (pe_fldK K (pv 1) rfl) (pa_cons pe_str pa_nil)))))
  (pss_cons (ps_fldK K (pv 1) (pv 3) rfl)
  (pss_one (ps_expr (pe_bmK2 K PySem.F.plainAttrs_list PySem.F.slot_list_append PySem.F.type_list_append mt_append (pe_fldK K (pv 1) rfl) (pa_cons pe_str pa_nil))))))))), ?_⟩
  have hxt : t ≠ x := ne_of ht hx (by intro z; cases z)
  cases e with
  | wmoves m v =>
    refine ⟨_, rfl, rfl, _, rfl, iteT' rfl ⟨_, rfl, _, rfl, x, T.c_NewLine, dx, _, rfl, hx, T.cl_NewLine, T.na_NewLine_moves, of_decide_eq_true rfl, ?_⟩⟩
    exact q _ upd_same (by rw [upd_ne hxt]; exact ht) (fun b u e n _ => by rw [upd_ne n]; exact e) fun b hb => (updN hb).2
  | wlabel m v =>
    refine ⟨_, rfl, rfl, _, rfl, iteF' rfl ⟨_, rfl, rfl, _, rfl, iteT' rfl ⟨_, rfl, _, rfl, x, T.c_NewLine, dx, _, rfl, hx, T.cl_NewLine, T.na_NewLine_label, of_decide_eq_true rfl, ?_⟩⟩⟩
    refine ⟨_, rfl, x, T.c_NewLine, dx, _, _, rfl, upd_same, T.cl_NewLine, T.na_NewLine_typed, rfl, .inl ⟨rfl, _, SqL.of (by rw [upd_ne hxt]; exact ht)⟩, t, _, .str "label", rfl, rfl, by rw [upd_ne hxt]; exact ht, line_lt (by rw [List.length_map]; omega), ?_⟩
    refine q _ (by rw [upd_ne hxt.symm, upd_same]; rfl) (by rw [upd_same]; simp [wrF]) (fun b u e n n2 => by rw [upd_ne n2, upd_ne n]; exact e) fun b hb => (updN (updN hb).2).2
  | wtie m v =>
    refine ⟨_, rfl, rfl, _, rfl, iteF' rfl ⟨_, rfl, rfl, _, rfl, iteF' rfl ⟨_, rfl, _, rfl, x, T.c_NewLine, dx, _, rfl, hx, T.cl_NewLine, T.na_NewLine_tie, of_decide_eq_true rfl, ?_⟩⟩⟩
    refine ⟨_, rfl, x, T.c_NewLine, dx, _, _, rfl, upd_same, T.cl_NewLine, T.na_NewLine_typed, rfl, .inl ⟨rfl, _, SqL.of (by rw [upd_ne hxt]; exact ht)⟩, t, _, .str "tie", rfl, rfl, by rw [upd_ne hxt]; exact ht, line_lt (by rw [List.length_map]; omega), ?_⟩
    refine q _ (by rw [upd_ne hxt.symm, upd_same]; rfl) (by rw [upd_same]; simp [wrF]) (fun b u e n n2 => by rw [upd_ne n2, upd_ne n]; exact e) fun b hb => (updN (updN hb).2).2
  | _ => simp [isWr] at he
theorem ok_play_deed (T : Tx K mg) {spR : Sp} (G_Ledgers_run : FnOk P w K mg base CX0 6 T.Ledgers_run.a T.Ledgers_run.fd ["self", "steps"] spR) : FnOk P w K mg base CX0 7 T.Ledgers_play_deed.a T.Ledgers_play_deed.fd ["self", "steps", "deed"] (spPlayDeed K (c3 T) spR) := by
  have G_Ledgers_old_line := ok_old_line (P := P) (w := w) (base := base) T
  have G_Ledgers_new_line := ok_new_line (P := P) (w := w) (base := base) T
  have G_Ledgers_put_line := ok_put_line (P := P) (w := w) (base := base) T
  have G_Ledgers_set_field := ok_set_field (P := P) (w := w) (base := base) T
  have G_Ledgers_write_field := ok_write_field (P := P) (w := w) (base := base) T
  have G_OldLine_init := ok_OldLine_init (P := P) (w := w) (base := base) T
  refine T.Ledgers_play_deed.F.ok sc_Ledgers_play_deed (fun vs H Q E h => by obtain ⟨a, p, sv, S, L, B, e, rfl, _⟩ := h; rfl) (fun cdv A outer s H vs Q E hr h => ?_)
  obtain ⟨a, p, sv, S, L, B, e, rfl, ⟨da, l1, l2, l3, d, os, ns, lp⟩, hB, hp, ok, q⟩ := h
  refine ⟨_, (pss_cons (ps_set (i := 3) sc_Ledgers_play_deed.nd rfl (Or.inl rfl) (pe_ix (ix_tupK K) (pv 2) pe_int (fun _ _ => rfl)))
  (pss_cons (ps_if (pt_cmpR op_eq (pv 3) pe_str (nomark _))
  (pss_one (ps_ret (pe_meth (pv 0) T.cl_Ledgers T.Ledgers_run.m G_Ledgers_run (hr.mono (by first | decide | omega)) T.Ledgers_run.b .nil pass0 (pa_cons (pv 1) pa_nil))))
  pss_nil)
  (pss_cons (ps_if (pt_cmpR op_eq (pv 3) pe_str (nomark _))
  (pss_cons (ps_expr (pe_bmK2 K PySem.F.plainAttrs_list PySem.F.slot_list_append PySem.F.type_list_append mt_append (pe_fldK K (pv 0) rfl) (pa_cons (pe_make T.mk_OldLine G_OldLine_init (hr.mono (by first | decide | omega)) rfl T.g_OldLine T.OldLine_init.b .nil pass0 (pa_cons (pe_op op_add (pe_callB (call_lenK K) (by rfl) T.b_len (by decide +kernel) (pa_cons (pe_fldK K (pv 0) rfl) pa_nil)) pe_int) (pa_cons (pe_ix (ix_tupK K) (pv 2) pe_int (fun _ _ => rfl)) (pa_cons (pe_ix (ix_tupK K) (pv 2) pe_int (fun _ _ => rfl)) pa_nil)))) pa_nil)))
  (pss_one (ps_ret (pe_callB (call_lenK K) (by rfl) T.b_len (by decide +kernel) (pa_cons (pe_fldK K (pv 0) rfl) pa_nil)))))
  pss_nil)
  (pss_cons (ps_if (pt_cmpR op_eq (pv 3) pe_str (nomark _))
  (pss_one (ps_ret (pe_meth (pv 0) T.cl_Ledgers T.Ledgers_put_line.m G_Ledgers_put_line (hr.mono (by first | decide | omega)) T.Ledgers_put_line.b .nil pass0 (pa_cons (pe_ix (ix_tupK K) (pv 2) pe_int (fun _ _ => rfl)) (pa_cons pe_int (pa_cons pe_non pa_nil))))))
  pss_nil)
  (pss_cons (ps_if (pt_val (pe_bmK2 K PySem.F.plainAttrs_str PySem.F.slot_str_startswith PySem.F.type_str_startswith mt_startswith (pv 3) (pa_cons pe_str pa_nil)))
  (pss_one (ps_expr (pe_meth (pv 0) T.cl_Ledgers T.Ledgers_write_field.m G_Ledgers_write_field (hr.mono (by first | decide | omega)) T.Ledgers_write_field.b .nil pass0 (pa_cons (pe_meth (pv 0) T.cl_Ledgers T.Ledgers_new_line.m G_Ledgers_new_line (hr.mono (by first | decide | omega)) T.Ledgers_new_line.b .nil pass0 (pa_cons (pe_ix (ix_tupK K) (pv 2) pe_int (fun _ _ => rfl)) pa_nil)) (pa_cons (pv 3) (pa_cons (pe_ix (ix_tupK K) (pv 2) pe_int (fun _ _ => rfl)) pa_nil))))))
  (pss_one (ps_expr (pe_meth (pv 0) T.cl_Ledgers T.Ledgers_set_field.m G_Ledgers_set_field (hr.mono (by first | decide | omega)) T.Ledgers_set_field.b .nil pass0 (pa_cons (pe_meth (pv 0) T.cl_Ledgers T.Ledgers_old_line.m G_Ledgers_old_line (hr.mono (by first | decide | omega)) T.Ledgers_old_line.b .nil pass0 (pa_cons (pe_ix (ix_tupK K) (pv 2) pe_int (fun _ _ => rfl)) pa_nil)) (pa_cons (pv 2) pa_nil))))))
  (pss_one (ps_ret pe_non))))))), ?_⟩
  have n3 := nd3 lp.ld
  have wl := lp.wf.later_len
  have le := lp.elen
  have ln := lp.llen
  have ws := lp.wf.sz
  have inOld : ∀ n, inO L n → ∃ (j : Nat) (x : Addr × OL) (dx : Addr), n = (j : Int) + 1 ∧ os[j]? = some x ∧ L.elder[j]? = some x.2 ∧ H x.1 = some (.ins T.c_OldLine dx (oF ((j : Int) + 1) x.2)) := by
    intro n ⟨h1, h2⟩
    have hj : (n - 1).toNat < os.length := by omega
    have hg := List.getElem?_eq_getElem hj
    obtain ⟨dx, hd⟩ := lp.po _ _ hg
    exact ⟨_, _, dx, by omega, hg, by rw [lp.el, List.getElem?_map, hg]; rfl, hd⟩
  have inNew : ∀ n, inN L n → ∃ (x : Addr × Addr × NL) (dx : Addr), x ∈ ns ∧ x.2.2.number = n ∧ H x.1 = some (.ins T.c_NewLine dx (nF x.2.2 x.2.1)) ∧ H x.2.1 = some (.lst (x.2.2.typed.map V.str)) := by
    intro n hn
    unfold inN nums at hn
    rw [lp.la, List.map_map] at hn
    obtain ⟨x, hx, e⟩ := List.mem_map.mp hn
    obtain ⟨⟨dx, h1⟩, h2⟩ := lp.qo x hx
    exact ⟨x, dx, hx, e, h1, h2⟩
  cases e with
  | run =>
    refine ⟨_, rfl, p, _, 0, .str "run", rfl, rfl, hp, rfl, ?_⟩
    refine ⟨_, rfl, rfl, _, rfl, iteT' rfl ?_⟩
    rcases q with ⟨n, _⟩ | ⟨_, q⟩
    · exact absurd rfl n
    · exact ⟨_, rfl, a, da, _, rfl, lp.ob, rfl, _, rfl, q⟩
  | add l am =>
    have q : ∀ H', Keep S H H' → LedAt (c3 T) S H' a (playM [] L (.add l am)) (B + 1) → Q (retV L (.add l am)) H' := by
      rcases q with ⟨_, q⟩ | ⟨z, _⟩
      · exact q
      · cases z
    refine ⟨_, rfl, p, _, 0, .str "add", rfl, rfl, hp, rfl, ?_⟩
    refine ⟨_, rfl, rfl, _, rfl, iteF' rfl ?_⟩
    refine ⟨_, rfl, rfl, _, rfl, iteT' rfl ?_⟩
    refine ⟨_, rfl, a, T.c_Ledgers, da, _, _, rfl, lp.ob, T.cl_Ledgers, T.na_Ledgers_elder, rfl, .inl ⟨rfl, _, SqL.of lp.e⟩, ?_⟩
    refine ⟨_, rfl, a, T.c_Ledgers, da, _, _, rfl, lp.ob, T.cl_Ledgers, T.na_Ledgers_elder, rfl, _, _, rfl, .inl ⟨_, SqL.of lp.e, rfl⟩, _, _, rfl, rfl, ?_⟩
    refine ⟨_, rfl, p, _, 1, .int l, rfl, rfl, hp, rfl, _, rfl, p, _, 2, .int am, rfl, rfl, hp, rfl, fun x dx nx ndx nd2 => ?_⟩
    refine ⟨x, dx, _, l, am, rfl, upd_same, rfl, ?_⟩
    rw [upd_upd, List.length_map]
    have nl1 : l1 ≠ x := ne_of_none lp.e nx
    have nld : l1 ≠ dx := ne_of_none lp.e ndx
    refine ⟨l1, _, .ref x, rfl, rfl, by rw [upd_ne nl1, upd_ne nld]; exact lp.e, line_lt (by rw [List.length_map]; omega), ?_⟩
    have nax : a ≠ x := ne_of_none lp.ob nx
    have nad : a ≠ dx := ne_of_none lp.ob ndx
    have nal : a ≠ l1 := ne_of lp.ob lp.e (by intro z; cases z)
    have kp : ∀ b o, H b = some o → b ≠ l1 → upd (upd (upd H dx (.own x)) x (.ins T.c_OldLine dx (oF ((os.length : Int) + 1) ⟨l, am, 0, none, true⟩))) l1 (.lst ((os.map fun x => V.ref x.1) ++ [.ref x])) b = some o := fun b o e n => by
      rw [upd_ne n, upd_ne (ne_of_none e nx), upd_ne (ne_of_none e ndx)]; exact e
    refine ⟨_, rfl, a, T.c_Ledgers, da, _, _, rfl, kp _ _ lp.ob nal, T.cl_Ledgers, T.na_Ledgers_elder, rfl, _, _, rfl, .inl ⟨_, SqL.of upd_same, rfl⟩, ?_⟩
    have er : (((os.map fun x => V.ref x.1) ++ [V.ref x]).length : Int) = (L.elder.length : Int) + 1 := by rw [List.length_append, List.length_map, le]; simp
    rw [er]
    refine q _ ⟨fun b o e n => kp b o e (fun z => n (by rw [z]; exact lp.sa.2.1)), tups_of (p := l1) (q := l1) (by rw [lp.e]; trivial) (by rw [lp.e]; trivial) fun b o e n _ => kp b o e n⟩ ⟨_, _, _, _, _, _, _, lp.addOld (dx := dx) (o := ⟨l, am, 0, none, true⟩) (by rw [upd_ne (Ne.symm nl1), upd_same]; rfl) nx upd_same kp (fun b hb => (updN (updN (updN hb).2).2).2) (by omega) (by omega)⟩
  | own l =>
    have q : ∀ H', Keep S H H' → LedAt (c3 T) S H' a (playM [] L (.own l)) (B + 1) → Q (retV L (.own l)) H' := by
      rcases q with ⟨_, q⟩ | ⟨z, _⟩
      · exact q
      · cases z
    refine ⟨_, rfl, p, _, 0, .str "own", rfl, rfl, hp, rfl, ?_⟩
    refine ⟨_, rfl, rfl, _, rfl, iteF' rfl ?_⟩
    refine ⟨_, rfl, rfl, _, rfl, iteF' rfl ?_⟩
    refine ⟨_, rfl, rfl, _, rfl, iteT' rfl ?_⟩
    refine ⟨_, rfl, a, da, _, rfl, lp.ob, rfl, _, rfl, p, _, 1, .int l, rfl, rfl, hp, rfl, ?_⟩
    exact ⟨a, l, 0, none, S, L, B, B + 1, da, l1, l2, l3, d, os, ns, rfl, lp, lp.wf.own l, by omega, fun H' z k h => q H' k ⟨_, _, _, _, _, _, _, h⟩⟩
  | label n l =>
    have q : ∀ H', Keep S H H' → LedAt (c3 T) S H' a (playM [] L (.label n l)) (B + 1) → Q (retV L (.label n l)) H' := by
      rcases q with ⟨_, q⟩ | ⟨z, _⟩
      · exact q
      · cases z
    refine ⟨_, rfl, p, _, 0, .str "label", rfl, rfl, hp, rfl, ?_⟩
    refine ⟨_, rfl, rfl, _, rfl, iteF' rfl ?_⟩
    refine ⟨_, rfl, rfl, _, rfl, iteF' rfl ?_⟩
    refine ⟨_, rfl, rfl, _, rfl, iteF' rfl ?_⟩
    refine ⟨_, rfl, rfl, _, _, rfl, rfl, _, rfl, iteF' (by decide) ?_⟩
    obtain ⟨j, x, dx, en, hj, hL, hx⟩ := inOld n ok
    refine ⟨_, rfl, a, da, _, rfl, lp.ob, rfl, _, rfl, a, da, _, rfl, lp.ob, rfl, _, rfl, p, _, 1, .int n, rfl, rfl, hp, rfl, a, da, l1, l2, l3, d, L.ever, n, _, rfl, lp.ob, lp.e, fun i v ei hv => ?_, fun hn => ?_⟩
    · obtain rfl : i = j := by omega
      rw [List.getElem?_map, hj] at hv
      cases hv
      refine ⟨_, rfl, _, x.1, dx, p, _, x.2, (.label n l), rfl, hx, hp, rfl, ?_⟩
      refine q _ (Keep.mut (lp.so x (List.mem_of_getElem? hj)) (by rw [hx]; trivial)) ?_
      have e := setOld_eq (f := fun o => { o with label := l }) en hL
      show LedAt (c3 T) S _ a (setOld L n _) (B + 1)
      rw [e]
      exact LedP.toA ((lp.upOld (o' := { x.2 with label := l }) hj hx).mono (Nat.le_succ B))
    · exfalso
      rw [List.length_map] at hn
      have := (List.getElem?_eq_some_iff.mp hj).1
      omega
  | moves n l =>
    have q : ∀ H', Keep S H H' → LedAt (c3 T) S H' a (playM [] L (.moves n l)) (B + 1) → Q (retV L (.moves n l)) H' := by
      rcases q with ⟨_, q⟩ | ⟨z, _⟩
      · exact q
      · cases z
    refine ⟨_, rfl, p, _, 0, .str "moves", rfl, rfl, hp, rfl, ?_⟩
    refine ⟨_, rfl, rfl, _, rfl, iteF' rfl ?_⟩
    refine ⟨_, rfl, rfl, _, rfl, iteF' rfl ?_⟩
    refine ⟨_, rfl, rfl, _, rfl, iteF' rfl ?_⟩
    refine ⟨_, rfl, rfl, _, _, rfl, rfl, _, rfl, iteF' (by decide) ?_⟩
    obtain ⟨j, x, dx, en, hj, hL, hx⟩ := inOld n ok
    refine ⟨_, rfl, a, da, _, rfl, lp.ob, rfl, _, rfl, a, da, _, rfl, lp.ob, rfl, _, rfl, p, _, 1, .int n, rfl, rfl, hp, rfl, a, da, l1, l2, l3, d, L.ever, n, _, rfl, lp.ob, lp.e, fun i v ei hv => ?_, fun hn => ?_⟩
    · obtain rfl : i = j := by omega
      rw [List.getElem?_map, hj] at hv
      cases hv
      refine ⟨_, rfl, _, x.1, dx, p, _, x.2, (.moves n l), rfl, hx, hp, rfl, ?_⟩
      refine q _ (Keep.mut (lp.so x (List.mem_of_getElem? hj)) (by rw [hx]; trivial)) ?_
      have e := setOld_eq (f := fun o => { o with moves := l }) en hL
      show LedAt (c3 T) S _ a (setOld L n _) (B + 1)
      rw [e]
      exact LedP.toA ((lp.upOld (o' := { x.2 with moves := l }) hj hx).mono (Nat.le_succ B))
    · exfalso
      rw [List.length_map] at hn
      have := (List.getElem?_eq_some_iff.mp hj).1
      omega
  | tie n l =>
    have q : ∀ H', Keep S H H' → LedAt (c3 T) S H' a (playM [] L (.tie n l)) (B + 1) → Q (retV L (.tie n l)) H' := by
      rcases q with ⟨_, q⟩ | ⟨z, _⟩
      · exact q
      · cases z
    refine ⟨_, rfl, p, _, 0, .str "tie", rfl, rfl, hp, rfl, ?_⟩
    refine ⟨_, rfl, rfl, _, rfl, iteF' rfl ?_⟩
    refine ⟨_, rfl, rfl, _, rfl, iteF' rfl ?_⟩
    refine ⟨_, rfl, rfl, _, rfl, iteF' rfl ?_⟩
    refine ⟨_, rfl, rfl, _, _, rfl, rfl, _, rfl, iteF' (by decide) ?_⟩
    obtain ⟨j, x, dx, en, hj, hL, hx⟩ := inOld n ok.1
    refine ⟨_, rfl, a, da, _, rfl, lp.ob, rfl, _, rfl, a, da, _, rfl, lp.ob, rfl, _, rfl, p, _, 1, .int n, rfl, rfl, hp, rfl, a, da, l1, l2, l3, d, L.ever, n, _, rfl, lp.ob, lp.e, fun i v ei hv => ?_, fun hn => ?_⟩
    · obtain rfl : i = j := by omega
      rw [List.getElem?_map, hj] at hv
      cases hv
      refine ⟨_, rfl, _, x.1, dx, p, _, x.2, (.tie n l), rfl, hx, hp, rfl, ?_⟩
      refine q _ (Keep.mut (lp.so x (List.mem_of_getElem? hj)) (by rw [hx]; trivial)) ?_
      have e := setOld_eq (f := fun o => { o with tie := l }) en hL
      show LedAt (c3 T) S _ a (setOld L n _) (B + 1)
      rw [e]
      exact LedP.toA ((lp.upOld (o' := { x.2 with tie := l }) hj hx).mono (Nat.le_succ B))
    · exfalso
      rw [List.length_map] at hn
      have := (List.getElem?_eq_some_iff.mp hj).1
      omega
  | fin n =>
    have q : ∀ H', Keep S H H' → LedAt (c3 T) S H' a (playM [] L (.fin n)) (B + 1) → Q (retV L (.fin n)) H' := by
      rcases q with ⟨_, q⟩ | ⟨z, _⟩
      · exact q
      · cases z
    refine ⟨_, rfl, p, _, 0, .str "end", rfl, rfl, hp, rfl, ?_⟩
    refine ⟨_, rfl, rfl, _, rfl, iteF' rfl ?_⟩
    refine ⟨_, rfl, rfl, _, rfl, iteF' rfl ?_⟩
    refine ⟨_, rfl, rfl, _, rfl, iteF' rfl ?_⟩
    refine ⟨_, rfl, rfl, _, _, rfl, rfl, _, rfl, iteF' (by decide) ?_⟩
    obtain ⟨j, x, dx, en, hj, hL, hx⟩ := inOld n ok
    refine ⟨_, rfl, a, da, _, rfl, lp.ob, rfl, _, rfl, a, da, _, rfl, lp.ob, rfl, _, rfl, p, _, 1, .int n, rfl, rfl, hp, rfl, a, da, l1, l2, l3, d, L.ever, n, _, rfl, lp.ob, lp.e, fun i v ei hv => ?_, fun hn => ?_⟩
    · obtain rfl : i = j := by omega
      rw [List.getElem?_map, hj] at hv
      cases hv
      refine ⟨_, rfl, _, x.1, dx, p, _, x.2, (.fin n), rfl, hx, hp, rfl, ?_⟩
      refine q _ (Keep.mut (lp.so x (List.mem_of_getElem? hj)) (by rw [hx]; trivial)) ?_
      have e := setOld_eq (f := fun o => { o with standing := false }) en hL
      show LedAt (c3 T) S _ a (setOld L n _) (B + 1)
      rw [e]
      exact LedP.toA ((lp.upOld (o' := { x.2 with standing := false }) hj hx).mono (Nat.le_succ B))
    · exfalso
      rw [List.length_map] at hn
      have := (List.getElem?_eq_some_iff.mp hj).1
      omega
  | wlabel n l =>
    have q : ∀ H', Keep S H H' → LedAt (c3 T) S H' a (playM [] L (.wlabel n l)) (B + 1) → Q (retV L (.wlabel n l)) H' := by
      rcases q with ⟨_, q⟩ | ⟨z, _⟩
      · exact q
      · cases z
    refine ⟨_, rfl, p, _, 0, .str "write label", rfl, rfl, hp, rfl, ?_⟩
    refine ⟨_, rfl, rfl, _, rfl, iteF' rfl ?_⟩
    refine ⟨_, rfl, rfl, _, rfl, iteF' rfl ?_⟩
    refine ⟨_, rfl, rfl, _, rfl, iteF' rfl ?_⟩
    refine ⟨_, rfl, rfl, _, _, rfl, rfl, _, rfl, iteT' (by decide) ?_⟩
    obtain ⟨x, dx, hx, en, h1, h2⟩ := inNew n ok
    refine ⟨_, rfl, a, da, _, rfl, lp.ob, rfl, _, rfl, a, da, _, rfl, lp.ob, rfl, _, rfl, p, _, 1, .int n, rfl, rfl, hp, rfl, a, n, S, L, B, da, l1, l2, l3, d, os, ns, rfl, lp, by omega, fun H2 s2 => ⟨fun y hy ey => ?_, fun hn => absurd en (hn x hx)⟩⟩
    obtain rfl := num_inj lp.wf lp.la hy hx (ey.trans en.symm)
    refine ⟨_, rfl, _, rfl, p, _, 2, .int l, rfl, rfl, s2.sqT hp, rfl, ?_⟩
    have lt := lp.wf.ty y.2.2 (by rw [lp.la]; exact List.mem_map.mpr ⟨y, hx, rfl⟩)
    refine ⟨_, y.1, dx, y.2.1, y.2.2, (.wlabel n l), rfl, s2 _ _ h1, s2 _ _ h2, rfl, by omega, fun H3 g1 g2 g3 g4 => ?_⟩
    have lp2 := lp.same s2
    refine q H3 (s2.kp.trans ⟨fun b u e z => g3 b u e (fun q => z (by rw [q]; exact (lp.sn y hx).1)) (fun q => z (by rw [q]; exact (lp.sn y hx).2)), tups_of (p := y.1) (q := y.2.1) (by rw [s2 _ _ h1]; trivial) (by rw [s2 _ _ h2]; trivial) g3⟩) ?_
    show LedAt (c3 T) S _ a (setNew L n _) (B + 1)
    rw [← en, setNew_eq (f := fun o => { o with label := l, typed := o.typed ++ [("label" : Str)] }) lp.wf lp.la hx rfl]
    exact LedP.toA <| lp2.upNewT (x := y) hx rfl rfl (s2 _ _ h1) g1 g2 g3 g4 (Nat.le_succ B) (by simpa using lp.wf.ty _ (by rw [lp.la]; exact List.mem_map.mpr ⟨y, hx, rfl⟩))
  | wmoves n l =>
    have q : ∀ H', Keep S H H' → LedAt (c3 T) S H' a (playM [] L (.wmoves n l)) (B + 1) → Q (retV L (.wmoves n l)) H' := by
      rcases q with ⟨_, q⟩ | ⟨z, _⟩
      · exact q
      · cases z
    refine ⟨_, rfl, p, _, 0, .str "write moves", rfl, rfl, hp, rfl, ?_⟩
    refine ⟨_, rfl, rfl, _, rfl, iteF' rfl ?_⟩
    refine ⟨_, rfl, rfl, _, rfl, iteF' rfl ?_⟩
    refine ⟨_, rfl, rfl, _, rfl, iteF' rfl ?_⟩
    refine ⟨_, rfl, rfl, _, _, rfl, rfl, _, rfl, iteT' (by decide) ?_⟩
    obtain ⟨x, dx, hx, en, h1, h2⟩ := inNew n ok
    refine ⟨_, rfl, a, da, _, rfl, lp.ob, rfl, _, rfl, a, da, _, rfl, lp.ob, rfl, _, rfl, p, _, 1, .int n, rfl, rfl, hp, rfl, a, n, S, L, B, da, l1, l2, l3, d, os, ns, rfl, lp, by omega, fun H2 s2 => ⟨fun y hy ey => ?_, fun hn => absurd en (hn x hx)⟩⟩
    obtain rfl := num_inj lp.wf lp.la hy hx (ey.trans en.symm)
    refine ⟨_, rfl, _, rfl, p, _, 2, .int l, rfl, rfl, s2.sqT hp, rfl, ?_⟩
    have lt := lp.wf.ty y.2.2 (by rw [lp.la]; exact List.mem_map.mpr ⟨y, hx, rfl⟩)
    refine ⟨_, y.1, dx, y.2.1, y.2.2, (.wmoves n l), rfl, s2 _ _ h1, s2 _ _ h2, rfl, by omega, fun H3 g1 g2 g3 g4 => ?_⟩
    have lp2 := lp.same s2
    refine q H3 (s2.kp.trans ⟨fun b u e z => g3 b u e (fun q => z (by rw [q]; exact (lp.sn y hx).1)) (fun q => z (by rw [q]; exact (lp.sn y hx).2)), tups_of (p := y.1) (q := y.2.1) (by rw [s2 _ _ h1]; trivial) (by rw [s2 _ _ h2]; trivial) g3⟩) ?_
    show LedAt (c3 T) S _ a (setNew L n _) (B + 1)
    rw [← en, setNew_eq (f := fun o => { o with moves := l }) lp.wf lp.la hx rfl]
    exact LedP.toA <| lp2.upNewT (x := y) hx rfl rfl (s2 _ _ h1) g1 g2 g3 g4 (Nat.le_succ B) (show y.2.2.typed.length ≤ B + 1 by omega)
  | wtie n l =>
    have q : ∀ H', Keep S H H' → LedAt (c3 T) S H' a (playM [] L (.wtie n l)) (B + 1) → Q (retV L (.wtie n l)) H' := by
      rcases q with ⟨_, q⟩ | ⟨z, _⟩
      · exact q
      · cases z
    refine ⟨_, rfl, p, _, 0, .str "write tie", rfl, rfl, hp, rfl, ?_⟩
    refine ⟨_, rfl, rfl, _, rfl, iteF' rfl ?_⟩
    refine ⟨_, rfl, rfl, _, rfl, iteF' rfl ?_⟩
    refine ⟨_, rfl, rfl, _, rfl, iteF' rfl ?_⟩
    refine ⟨_, rfl, rfl, _, _, rfl, rfl, _, rfl, iteT' (by decide) ?_⟩
    obtain ⟨x, dx, hx, en, h1, h2⟩ := inNew n ok.1
    refine ⟨_, rfl, a, da, _, rfl, lp.ob, rfl, _, rfl, a, da, _, rfl, lp.ob, rfl, _, rfl, p, _, 1, .int n, rfl, rfl, hp, rfl, a, n, S, L, B, da, l1, l2, l3, d, os, ns, rfl, lp, by omega, fun H2 s2 => ⟨fun y hy ey => ?_, fun hn => absurd en (hn x hx)⟩⟩
    obtain rfl := num_inj lp.wf lp.la hy hx (ey.trans en.symm)
    refine ⟨_, rfl, _, rfl, p, _, 2, tv l, rfl, rfl, s2.sqT hp, rfl, ?_⟩
    have lt := lp.wf.ty y.2.2 (by rw [lp.la]; exact List.mem_map.mpr ⟨y, hx, rfl⟩)
    refine ⟨_, y.1, dx, y.2.1, y.2.2, (.wtie n l), rfl, s2 _ _ h1, s2 _ _ h2, rfl, by omega, fun H3 g1 g2 g3 g4 => ?_⟩
    have lp2 := lp.same s2
    refine q H3 (s2.kp.trans ⟨fun b u e z => g3 b u e (fun q => z (by rw [q]; exact (lp.sn y hx).1)) (fun q => z (by rw [q]; exact (lp.sn y hx).2)), tups_of (p := y.1) (q := y.2.1) (by rw [s2 _ _ h1]; trivial) (by rw [s2 _ _ h2]; trivial) g3⟩) ?_
    show LedAt (c3 T) S _ a (setNew L n _) (B + 1)
    rw [← en, setNew_eq (f := fun o => { o with tie := l, typed := o.typed ++ [("tie" : Str)] }) lp.wf lp.la hx rfl]
    exact LedP.toA <| lp2.upNewT (x := y) hx rfl rfl (s2 _ _ h1) g1 g2 g3 g4 (Nat.le_succ B) (by simpa using lp.wf.ty _ (by rw [lp.la]; exact List.mem_map.mpr ⟨y, hx, rfl⟩))
end
end Y

/-! # play and faults -/
namespace Y
open PySem L2 M
def wordOf : PyData → Str
  | .str s => s
  | _ => ""
def wordsOf : PyData → List Str
  | .tuple ds => ds.map wordOf
  | _ => []
/-- what is wrong, as data -/
def fD (x : Str × Int × Int) : PyData := .tuple [.str x.1, .int x.2.1, .int x.2.2]
def wD (i : Int) (x : Str × Int) : PyData := .tuple [.str x.1, .int i, .int x.2]
/-- a list of deeds -/
def DeedsAt (K : PySem.W.Frag) (H : Hp) (p : Addr) (es : List Deed) : Prop := ∃ xs, SqL K H p xs ∧ DpAll K H xs (es.map dD)
def okDeed (e : Deed) : Bool := isDeedD (dD e)
def spCheckDeeds (K : PySem.W.Frag) : Sp := fun vs H Q _ => ∃ (p : Addr) (es : List Deed), vs = [.ref p] ∧ DeedsAt K H p es ∧ (∀ e ∈ es, okDeed e = true) ∧ ∀ H', Same H H' → Q .non H'
/-- what is new and does not belong to the ledgers -/
noncomputable def newS (S S' : Addr → Prop) (H' : Hp) : Hp := fun b => by classical exact if S b ∧ ¬ S' b then H' b else none
theorem newS_some {S S' : Addr → Prop} {H' : Hp} {b : Addr} (h1 : S b) (h2 : ¬ S' b) : newS S S' H' b = H' b := by
  unfold newS; rw [if_pos ⟨h1, h2⟩]
theorem newS_inv {S S' : Addr → Prop} {H' : Hp} {b : Addr} {o : HO} (h : newS S S' H' b = some o) : S b ∧ ¬ S' b ∧ H' b = some o := by
  unfold newS at h
  split at h
  · exact ⟨(by assumption : S b ∧ ¬ S' b).1, (by assumption : S b ∧ ¬ S' b).2, h⟩
  · cases h
theorem newS_later {S0 S S' S'' : Addr → Prop} {H' H'' : Hp} (h0 : ∀ x, S x → S0 x) (k : Keep S' H' H'') (hs : ∀ x, S'' x → S' x) : Same (newS S S' H') (newS S0 S'' H'') := fun b o e => by
  obtain ⟨h1, h2, h3⟩ := newS_inv e
  rw [newS_some (h0 b h1) fun z => h2 (hs b z)]
  exact k.keep b o h3 h2
/-- a run's numbers -/
def runD (ws : List (List Str)) (L : Led) : PyData := .tuple [.list (((nums (runM ws L).later).filter fun z => decide (z ∈ (runM ws L).fresh)).map PyData.int), .list (((nums L.later).filter fun z => !decide (z ∈ nums (runM ws L).later)).map PyData.int)]
def spRun (K : PySem.W.Frag) (C : C3) : Sp := fun vs H Q _ => ∃ (a : Addr) (sv : V) (ds : List PyData) (S : Addr → Prop) (L : Led) (B : Nat), vs = [.ref a, sv] ∧ LedAt C S H a L B ∧ B ≤ 4990 ∧ Dp K H sv (.tuple ds) ∧ Row ds ∧
  ∀ v H' S', (∀ x, S' x → S x) → Keep S H H' → LedAt C S' H' a (runM (ds.map wordsOf) L) B → Dp K (newS S S' H') v (runD (ds.map wordsOf) L) → Q v H'
def spWrongs (K : PySem.W.Frag) (C : C3) : Sp := fun vs H Q _ => ∃ (a : Addr) (i : Int) (S : Addr → Prop) (L : Led) (B : Nat), vs = [.ref a, .int i] ∧ LedAt C S H a L B ∧ B ≤ 4990 ∧
  ∀ p xs H', H p = none → Same H H' → H' p = some (.lst xs) → DpAll K H' xs ((wrongsM L).map (wD i)) → Q (.ref p) H'
def spPlayed (K : PySem.W.Frag) (C : C3) (cs : Addr) (spR spW : Sp) : Sp := fun vs H Q _ => ∃ (sc p : Addr) (ds : List PyData) (es : List Deed), vs = [.ref sc, .ref p] ∧ ScrAt K cs H sc ds ∧ Row ds ∧ DeedsAt K H p es ∧ es.length ≤ 600 ∧ (∀ e ∈ es, okDeed e = true) ∧ OkAll (ds.map wordsOf) Led.init es ∧
  (∀ e ∈ es, isRun e = true → (∀ vs H Q E, spRun K C vs H Q E → spR vs H Q E) ∧ (∀ vs H Q E, spWrongs K C vs H Q E → spW vs H Q E)) ∧
  ∀ (t a f : Addr) (xs : List V) (S : Addr → Prop) (H' : Hp), Same H H' → H f = none → (∀ x, S x → H x = none) → H' t = some (.tup [.ref a, .ref f]) → LedAt C S H' a (playAll (ds.map wordsOf) Led.init es) es.length → H' f = some (.lst xs) → DpAll K H' xs ((faultsM (ds.map wordsOf) es).map fD) → Q (.ref t) H'
def spPlay (K : PySem.W.Frag) (C : C3) (cs : Addr) (spR spW : Sp) : Sp := fun vs H Q _ => ∃ (sc p : Addr) (ds : List PyData) (es : List Deed), vs = [.ref sc, .ref p] ∧ ScrAt K cs H sc ds ∧ Row ds ∧ DeedsAt K H p es ∧ es.length ≤ 600 ∧ (∀ e ∈ es, okDeed e = true) ∧ OkAll (ds.map wordsOf) Led.init es ∧
  (∀ e ∈ es, isRun e = true → (∀ vs H Q E, spRun K C vs H Q E → spR vs H Q E) ∧ (∀ vs H Q E, spWrongs K C vs H Q E → spW vs H Q E)) ∧
  ∀ (t e f : Addr) (xs ys : List V) (H' : Hp), Same H H' → H t = none → H e = none → H f = none → e ≠ f → H' t = some (.tup [.ref e, .ref f]) → H' e = some (.lst xs) → H' f = some (.lst ys) →
    DpAll K H' xs (oRows (playAll (ds.map wordsOf) Led.init es)) → DpAll K H' ys (nRows (playAll (ds.map wordsOf) Led.init es)) → Q (.ref t) H'
def spFaults (K : PySem.W.Frag) (C : C3) (cs : Addr) (spR spW : Sp) : Sp := fun vs H Q _ => ∃ (sc p : Addr) (ds : List PyData) (es : List Deed), vs = [.ref sc, .ref p] ∧ ScrAt K cs H sc ds ∧ Row ds ∧ DeedsAt K H p es ∧ es.length ≤ 600 ∧ (∀ e ∈ es, okDeed e = true) ∧ OkAll (ds.map wordsOf) Led.init es ∧
  (∀ e ∈ es, isRun e = true → (∀ vs H Q E, spRun K C vs H Q E → spR vs H Q E) ∧ (∀ vs H Q E, spWrongs K C vs H Q E → spW vs H Q E)) ∧
  ∀ (f : Addr) (xs : List V) (H' : Hp), Same H H' → H f = none → H' f = some (.lst xs) → DpAll K H' xs ((faultsM (ds.map wordsOf) es).map fD) → Q (.ref f) H'
theorem SqL.but {K : PySem.W.Frag} {S : Addr → Prop} {H H' : Hp} {p : Addr} {xs : List V} (h : SqL K H p xs) (k : ∀ b o, H b = some o → H' b = some o) : SqL K H' p xs := h.same k
theorem DeedsAt.same {K : PySem.W.Frag} {H H' : Hp} {p : Addr} {es : List Deed} (h : DeedsAt K H p es) (s : Same H H') : DeedsAt K H' p es := by
  obtain ⟨xs, h1, h2⟩ := h
  exact ⟨xs, h1.same s, s.dpAll h2⟩
theorem deed_shaped (e : Deed) : SeqAt.shaped (dD e) = true := by
  have ht : ∀ m, PyData.canLay0 (tD m) = true ∧ PyData.depth (tD m) = 0 := fun m => by cases m <;> exact ⟨rfl, rfl⟩
  have aux : ∀ d : PyData, PyData.canLay0 d = true → PyData.depth d ≤ 64 → SeqAt.shaped d = true := fun d h1 h2 => by
    show (PyData.canLay0 d && decide (PyData.depth d ≤ 64)) = true
    rw [h1, decide_eq_true h2]; rfl
  cases e <;> (refine aux _ ?_ ?_ <;> simp only [dD, PyData.canLay0, PyData.canLayAll0, PyData.depth, PyData.depthAll, (ht _).1, (ht _).2, Bool.and_true, Bool.true_and] <;> decide +kernel)
theorem deed_len (e : Deed) : ∀ ds, dD e = .tuple ds → ds.length ≤ 1000 := by
  cases e <;> (intro ds h; cases h; simp)
theorem eqv_run (e : Deed) : PyData.eqv (dD e) (.tuple [.str "run"]) = isRun e := by
  cases e <;> simp [dD, PyData.eqv, PyData.eqvAll, isRun] <;> decide
theorem playM_nr {e : Deed} {L : Led} (h : e ≠ .run) (s1 s2 : List (List Str)) : playM s1 L e = playM s2 L e := by
  cases e <;> first | rfl | exact absurd rfl h
section
variable {P : Program} {w : World} {K : PySem.W.Frag} {mg : Str → Option Value} {base : Heap}
end
end Y

/-! # a run, and what is wrong behind it -/
namespace Y
open PySem L2 M
def spClosing (C : Addr) : Sp := fun vs H Q _ => ∃ (x dx : Addr) (n : Int) (o : OL), vs = [.ref x] ∧ H x = some (.ins C dx (oF n o)) ∧ Q (.int o.closing) H
def spIsOwn (C : Addr) : Sp := fun vs H Q _ => ∃ (x dx t : Addr) (n : NL) (f : Str), vs = [.ref x, .str f] ∧ H x = some (.ins C dx (nF n t)) ∧ H t = some (.lst (n.typed.map V.str)) ∧ (f = "label" ∨ f = "tie") ∧ Q (.bl (isOwnM f n)) H
/-- the made lines' dict -/
def madeKV (ns : NS) : List (Key × V) := (ns.filter fun x => x.2.2.source.isSome).map fun x => (Sum.inl (x.2.2.source.getD 0), V.ref x.1)
def spMade (C : C3) : Sp := fun vs H Q _ => ∃ (a : Addr) (S : Addr → Prop) (L : Led) (B : Nat) (da l1 l2 l3 d : Addr) (os : List (Addr × OL)) (ns : NS), vs = [.ref a] ∧ LedP C S H a L B da l1 l2 l3 d os ns ∧ B ≤ 5000 ∧
  ∀ m H', H m = none → Same H H' → H' m = some (.dK (madeKV ns)) → Q (.ref m) H'
def spSourceOf (C : C3) : Sp := fun vs H Q _ => ∃ (a : Addr) (S : Addr → Prop) (L : Led) (B : Nat) (da l1 l2 l3 d : Addr) (os : List (Addr × OL)) (ns : NS) (x : Addr × Addr × NL) (s : Int) (j : Nat) (y : Addr × OL), vs = [.ref a, .ref x.1] ∧ LedP C S H a L B da l1 l2 l3 d os ns ∧ x ∈ ns ∧ x.2.2.source = some s ∧
  s = (j : Int) + 1 ∧ os[j]? = some y ∧ Q (.ref y.1) H
def spIsIn (C : C3) : Sp := fun vs H Q _ => ∃ (a : Addr) (S : Addr → Prop) (L : Led) (B : Nat) (da l1 l2 l3 d : Addr) (os : List (Addr × OL)) (ns : NS) (x : Addr × Addr × NL) (f sc : Str), vs = [.ref a, .ref x.1, .str f, .str sc] ∧ LedP C S H a L B da l1 l2 l3 d os ns ∧ x ∈ ns ∧
  (f = "start" ∨ f = "label" ∨ f = "tie") ∧ Q (.bl (inScope L f sc x.2.2)) H
def spMakeS (C : C3) : Sp := fun vs H Q _ => ∃ (a : Addr) (sc : Str) (S : Addr → Prop) (L : Led) (B : Nat), vs = [.ref a, .str sc] ∧ LedAt C S H a L B ∧ B ≤ 4990 ∧ L.fresh.length ≤ 90000 ∧
  ∀ H', Keep S H H' → LedAt C S H' a (makeM (sc == "all") L) B → Q .non H'
theorem madeKV_get {C : C3} {S : Addr → Prop} {H : Hp} {a : Addr} {L : Led} {B : Nat} {da l1 l2 l3 d : Addr} {os : List (Addr × OL)} {ns : NS} (p : LedP C S H a L B da l1 l2 l3 d os ns) (s : Int) : (valV (madeKV ns) (Sum.inl s)).isSome = decide (s ∈ srcs L.later) := by
  rw [p.la]
  unfold srcs
  clear p
  induction ns with
  | nil => rfl
  | cons z r ih =>
    unfold madeKV at ih ⊢
    rw [List.map_cons, List.filterMap_cons]
    cases hz : z.2.2.source with
    | none => rw [List.filter_cons_of_neg (by rw [hz]; simp)]; exact ih
    | some i =>
      rw [List.filter_cons_of_pos (by rw [hz]; rfl), List.map_cons, hz]
      by_cases e : i = s
      · subst e
        show (valV ((Sum.inl i, V.ref z.1) :: _) (Sum.inl i)).isSome = decide (i ∈ i :: _)
        rw [valV_pos rfl]; simp
      · have ne : ¬ ((Sum.inl i : Key), V.ref z.1).1 = Sum.inl s := by intro z; injection z with z; exact e z
        show (valV ((Sum.inl i, V.ref z.1) :: _) (Sum.inl s)).isSome = decide (s ∈ i :: _)
        rw [valV_neg ne, ih]
        have : ¬ s = i := fun z => e z.symm
        simp [this]
def spDropS (C : C3) : Sp := fun vs H Q _ => ∃ (a : Addr) (S : Addr → Prop) (L : Led) (B : Nat), vs = [.ref a] ∧ LedAt C S H a L B ∧ B ≤ 4990 ∧ ∀ H', Keep S H H' → LedAt C S H' a (dropM L) B → Q .non H'
theorem sFld_app {K : PySem.W.Frag} {ta tv : TE} {f : Str} {D : Ends} {σ : St} {H : Hp} : sFld K ta tv f D σ H = tv σ H fun y H1 => ta σ H1 fun x H2 => ∃ a C dx fs, x = .ref a ∧ H2 a = some (.ins C dx fs) ∧ Cls K C ∧ NoAttr K C f ∧ fs.length < 1000 ∧ D.nx σ (upd H2 a (.ins C dx (putF f y fs))) := rfl
def spFollow (C : C3) : Sp := fun vs H Q _ => ∃ (a : Addr) (f sc : Str) (S : Addr → Prop) (L : Led) (B : Nat), vs = [.ref a, .str f, .str sc] ∧ LedAt C S H a L B ∧ B ≤ 4990 ∧ (f = "start" ∨ f = "label" ∨ f = "tie") ∧ ∀ H', Keep S H H' → LedAt C S H' a (followM f sc L) B → Q .non H'
theorem follow1_number (L : Led) (f sc : Str) (n : NL) : (follow1 L f sc n).number = n.number := by
  unfold follow1
  split
  · rfl
  · split
    · split
      · rfl
      · split
        · rfl
        · split <;> rfl
    · rfl
theorem madeKV_val (t : Int) : ∀ ns : NS, valV (madeKV ns) (Sum.inl t) = (ns.find? fun x => x.2.2.source == some t).map fun x => V.ref x.1
  | [] => rfl
  | z :: r => by
    have ih := madeKV_val t r
    unfold madeKV at ih ⊢
    cases hz : z.2.2.source with
    | none =>
      rw [List.filter_cons_of_neg (by rw [hz]; simp), List.find?_cons_of_neg (by rw [hz]; simp)]; exact ih
    | some i =>
      rw [List.filter_cons_of_pos (by rw [hz]; rfl), List.map_cons]
      by_cases e : i = t
      · have e0 : ((Sum.inl (z.2.2.source.getD 0) : Key), V.ref z.1).1 = Sum.inl t := by rw [hz, e]; rfl
        rw [valV_pos e0, List.find?_cons_of_pos (by rw [hz, e]; simp)]; rfl
      · have e0 : ¬ ((Sum.inl (z.2.2.source.getD 0) : Key), V.ref z.1).1 = Sum.inl t := by rw [hz]; intro h; injection h with h; exact e h
        rw [valV_neg e0, List.find?_cons_of_neg (by rw [hz]; simpa using e)]; exact ih
theorem untie_number (g : List Int) (n : NL) : (untie g n).number = n.number := by
  unfold untie
  split
  · rfl
  · split <;> rfl
/-- strings, integers in flat lists -/
theorem inV_str (w : Str) : ∀ ws : List Str, inV (.str w) (ws.map V.str) = decide (w ∈ ws)
  | [] => rfl
  | a :: ws => by
    have ih := inV_str w ws
    unfold inV at ih ⊢
    rw [List.map_cons, List.any_cons, ih]
    have : eqV (.str a) (.str w) = (a == w) := rfl
    rw [this]
    by_cases e : a = w
    · subst e; simp
    · have e' : ¬ w = a := fun z => e z.symm
      simp [e, e']
theorem inV_int (w : Int) : ∀ ws : List Int, inV (.int w) (ws.map V.int) = decide (w ∈ ws)
  | [] => rfl
  | a :: ws => by
    have ih := inV_int w ws
    unfold inV at ih ⊢
    rw [List.map_cons, List.any_cons, ih]
    have : eqV (.int a) (.int w) = (a == w) := rfl
    rw [this]
    by_cases e : a = w
    · subst e; simp
    · have e' : ¬ w = a := fun z => e z.symm
      simp [e, e']
theorem inV_non : ∀ ws : List Int, inV .non (ws.map V.int) = false
  | [] => rfl
  | a :: ws => by
    have ih := inV_non ws
    unfold inV at ih ⊢
    rw [List.map_cons, List.any_cons, ih]; rfl
theorem flat_str : ∀ ws : List Str, (ws.map V.str).all flatV = true
  | [] => rfl
  | a :: ws => by rw [List.map_cons, List.all_cons, flat_str ws]; rfl
theorem flat_int : ∀ ws : List Int, (ws.map V.int).all flatV = true
  | [] => rfl
  | a :: ws => by rw [List.map_cons, List.all_cons, flat_int ws]; rfl
theorem tv_non {t : Option Int} : decide (tv t = V.non) = t.isNone := by cases t <;> simp [tv]
section
variable {P : Program} {w : World} {K : PySem.W.Frag} {mg : Str → Option Value} {base : Heap}
theorem ok_closing (T : Tx K mg) : FnOk P w K mg base CX0 1 T.OldLine_closing.a T.OldLine_closing.fd ["self"] (spClosing T.c_OldLine) := by
  refine T.OldLine_closing.F.ok sc_OldLine_closing (fun vs H Q E h => by obtain ⟨x, dx, n, o, rfl, _⟩ := h; rfl) (fun cdv A outer s H vs Q E hr h => ?_)
  obtain ⟨x, dx, n, o, rfl, hx, q⟩ := h
  refine ⟨_, (pss_one (ps_ret (pe_op op_add (pe_fldK K (pv 0) rfl) (pe_fldK K (pv 0) rfl)))), ?_⟩
  exact ⟨_, rfl, x, T.c_OldLine, dx, _, _, rfl, hx, T.cl_OldLine, T.na_OldLine_start, rfl, _, rfl, x, T.c_OldLine, dx, _, _, rfl, hx, T.cl_OldLine, T.na_OldLine_moves, rfl, _, _, rfl, rfl, q⟩
theorem strs_any {K : PySem.W.Frag} {H : Hp} : ∀ ws : List Str, DpAll K H (ws.map V.str) (ws.map PyData.str)
  | [] => .nil
  | w :: ws => .cons (.str w) (strs_any ws)
theorem ok_is_own (T : Tx K mg) : FnOk P w K mg base CX0 1 T.NewLine_is_own.a T.NewLine_is_own.fd ["self", "field"] (spIsOwn T.c_NewLine) := by
  refine T.NewLine_is_own.F.ok sc_NewLine_is_own (fun vs H Q E h => by obtain ⟨x, dx, t, n, f, rfl, _⟩ := h; rfl) (fun cdv A outer s H vs Q E hr h => ?_)
  obtain ⟨x, dx, t, n, f, rfl, hx, ht, hf, q⟩ := h
  refine ⟨_, (pss_one (ps_ret (pe_or (pe_cmpR op_isN (pe_fldK K (pv 0) rfl) pe_non (nomark _)) (pe_one (pe_cmpR (op_in_seqK K) (pv 1) (pe_fldK K (pv 0) rfl) (by rfl)))))), ?_⟩
  refine ⟨_, rfl, x, T.c_NewLine, dx, _, _, rfl, hx, T.cl_NewLine, T.na_NewLine_source, rfl, rfl, _, rfl, ?_⟩
  rw [tv_non]
  unfold isOwnM at q
  cases hs : n.source with
  | none =>
    rw [hs] at q
    exact iteT' rfl q
  | some i =>
    rw [hs] at q
    refine iteF' rfl ⟨_, rfl, _, rfl, x, T.c_NewLine, dx, _, _, rfl, hx, T.cl_NewLine, T.na_NewLine_typed, rfl, t, _, rfl, .inl (SqL.of ht), rfl, flat_str _, ?_⟩
    show Q (.bl (inV (.str f) (n.typed.map V.str))) H
    rw [inV_str]; exact q
theorem ok_made_lines (T : Tx K mg) : FnOk P w K mg base CX0 1 T.Ledgers_made_lines.a T.Ledgers_made_lines.fd ["self"] (spMade (c3 T)) := by
  refine T.Ledgers_made_lines.F.ok sc_Ledgers_made_lines (fun vs H Q E h => by obtain ⟨a, S, L, B, da, l1, l2, l3, d, os, ns, rfl, _⟩ := h; rfl) (fun cdv A outer s H vs Q E hr h => ?_)
  obtain ⟨a, S, L, B, da, l1, l2, l3, d, os, ns, rfl, p, hB, q⟩ := h
  refine ⟨_, (pss_one (ps_ret (pe_dc (own := [("line", 1)]) (g := (gName 1)) (tt := _) rfl sc_Ledgers_made_lines.nd (pi_listK K (pe_fldK K (pv 0) rfl)) (blkOk_by (N := ["self", "line"]) (sc := defScope s_Ledgers_made_lines) (by decide +kernel)) (fun _ _ _ _ _ => pg_name (i := 1) sc_Ledgers_made_lines.nd rfl (Or.inl rfl)) (fun _ _ _ _ _ => pts_one (pt_cmpR op_notN (pe_fldK K (pv 1) rfl) pe_non (nomark _))) (fun _ _ _ _ _ => (pe_fldK K (pv 1) rfl)) (fun _ _ _ _ _ => (pv 1))))), ?_⟩
  have ln := p.llen
  have wl := p.wf.later_len
  dsimp only [tRet_app]
  refine dcFM (l := l2) ns (fun x => V.ref x.1) (fun x => V.ref x.1) (fun x => Sum.inl (x.2.2.source.getD 0)) (fun x => x.2.2.source.isSome) (fun Q hq => ⟨_, rfl, a, T.c_Ledgers, da, _, _, rfl, p.ob, T.cl_Ledgers, T.na_Ledgers_later, rfl, hq⟩) (SqL.of p.n) (by omega) ?_ (fun x => rfl) ?_ ?_ ?_ ?_
  · have e : (ns.filter fun x => x.2.2.source.isSome).map (fun x => (Sum.inl (x.2.2.source.getD 0) : Key)) = (srcs L.later).map Sum.inl := by
      rw [p.la]
      unfold srcs
      clear p hB q ln wl
      induction ns with
      | nil => rfl
      | cons z r ih =>
        rw [List.map_cons, List.filterMap_cons]
        cases hz : z.2.2.source with
        | none => rw [List.filter_cons_of_neg (by rw [hz]; simp)]; exact ih
        | some i => rw [List.filter_cons_of_pos (by rw [hz]; rfl), List.map_cons, List.map_cons, ih, hz]; rfl
    rw [e]
    exact List.Pairwise.map _ (fun a b h e => h (Sum.inl.inj e)) p.wf.nd
  · intro j x H' hx s R hR
    obtain ⟨⟨dx, h1⟩, _⟩ := p.qo x (List.mem_of_getElem? hx)
    refine ⟨_, rfl, x.1, T.c_NewLine, dx, _, _, rfl, s _ _ h1, T.cl_NewLine, T.na_NewLine_source, rfl, rfl, _, rfl, ?_⟩
    have e : (!decide (tv x.2.2.source = V.non)) = x.2.2.source.isSome := by cases x.2.2.source <;> simp [tv]
    rw [e]; exact hR H' (Same.refl H')
  · intro j x H' hx hf s R hR
    obtain ⟨⟨dx, h1⟩, _⟩ := p.qo x (List.mem_of_getElem? hx)
    refine ⟨_, rfl, x.1, T.c_NewLine, dx, _, _, rfl, s _ _ h1, T.cl_NewLine, T.na_NewLine_source, rfl, ?_⟩
    have e : tv x.2.2.source = kV (Sum.inl (x.2.2.source.getD 0)) := by
      cases e : x.2.2.source with
      | none => rw [e] at hf; cases hf
      | some i => rfl
    rw [e]; exact hR H' (Same.refl H')
  · intro j x H' hx hf s R hR
    exact ⟨_, rfl, hR H' (Same.refl H')⟩
  · exact q
theorem ok_source_of (T : Tx K mg) : FnOk P w K mg base CX0 1 T.Ledgers_source_of.a T.Ledgers_source_of.fd ["self", "line"] (spSourceOf (c3 T)) := by
  refine T.Ledgers_source_of.F.ok sc_Ledgers_source_of (fun vs H Q E h => by obtain ⟨a, S, L, B, da, l1, l2, l3, d, os, ns, x, s, j, y, rfl, _⟩ := h; rfl) (fun cdv A outer s H vs Q E hr h => ?_)
  obtain ⟨a, S, L, B, da, l1, l2, l3, d, os, ns, x, s, j, y, rfl, p, hx, hs, hj, hy, q⟩ := h
  refine ⟨_, (pss_one (ps_ret (pe_ix (ix_listK K) (pe_fldK K (pv 0) rfl) (pe_op op_sub (pe_fldK K (pv 1) rfl) pe_int) (fun _ _ => rfl)))), ?_⟩
  obtain ⟨⟨dx, h1⟩, _⟩ := p.qo x hx
  refine ⟨_, rfl, a, T.c_Ledgers, da, _, _, rfl, p.ob, T.cl_Ledgers, T.na_Ledgers_elder, rfl, _, rfl, x.1, T.c_NewLine, dx, _, .int s, rfl, h1, T.cl_NewLine, T.na_NewLine_source, by rw [show (nF x.2.2 x.2.1).lookup ("source" : Str) = some (tv x.2.2.source) from rfl, hs]; rfl, _, _, rfl, rfl, ?_⟩
  exact ⟨l1, _, s - 1, .ref y.1, rfl, rfl, SqL.of p.e, at_of (j := j) (by omega) (by rw [List.getElem?_map, hy]; rfl), q⟩
theorem ok_is_in (T : Tx K mg) : FnOk P w K mg base CX0 1 T.Ledgers_is_in.a T.Ledgers_is_in.fd ["self", "line", "field", "scope"] (spIsIn (c3 T)) := by
  refine T.Ledgers_is_in.F.ok sc_Ledgers_is_in (fun vs H Q E h => by obtain ⟨a, S, L, B, da, l1, l2, l3, d, os, ns, x, f, sc, rfl, _⟩ := h; rfl) (fun cdv A outer s H vs Q E hr h => ?_)
  obtain ⟨a, S, L, B, da, l1, l2, l3, d, os, ns, x, f, sc, rfl, p, hx, hf, q⟩ := h
  refine ⟨_, (pss_cons (ps_if (pt_cmpR op_eq (pv 3) pe_str (nomark _))
  (pss_one (ps_ret (pe_cmpR (op_in_seqK K) (pe_fldK K (pv 1) rfl) (pe_fldK K (pv 0) rfl) (by rfl))))
  pss_nil)
  (pss_one (ps_ret (pe_or (pe_cmpR op_eq (pv 3) pe_str (nomark _)) (pe_one (pe_cmpR (op_notIn_seqK K) (pv 2) (pe_fldK K (pv 1) rfl) (by rfl))))))), ?_⟩
  obtain ⟨⟨dx, h1⟩, h2⟩ := p.qo x hx
  unfold inScope at q
  refine ⟨_, rfl, rfl, _, rfl, iteB (fun c => ?_) (fun c => ?_)⟩
  · have e : sc = "new" := by
      have := of_decide_eq_true c
      injection this
    rw [if_pos e] at q
    refine ⟨_, rfl, x.1, T.c_NewLine, dx, _, _, rfl, h1, T.cl_NewLine, T.na_NewLine_number, rfl, _, rfl, a, T.c_Ledgers, da, _, _, rfl, p.ob, T.cl_Ledgers, T.na_Ledgers_fresh, rfl, l3, _, rfl, .inl (SqL.of p.f), rfl, flat_int _, ?_⟩
    show Q (.bl (inV (.int x.2.2.number) (L.fresh.map V.int))) H
    rw [inV_int]; exact q
  have e : ¬ sc = "new" := fun z => by rw [z] at c; exact absurd c (by decide)
  rw [if_neg e] at q
  refine ⟨_, rfl, rfl, _, rfl, iteB (fun c2 => ?_) (fun c2 => ?_)⟩
  · have e : sc = "all" := by
      have := of_decide_eq_true c2
      injection this
    have e2 : (sc == "all") = true := by rw [e]; simp
    rw [e2, Bool.true_or] at q
    exact q
  · have e2 : (sc == "all") = false := by
      have : ¬ sc = "all" := fun z => by rw [z] at c2; exact absurd c2 (by decide)
      simpa using this
    rw [e2, Bool.false_or] at q
    refine ⟨_, rfl, _, rfl, x.1, T.c_NewLine, dx, _, _, rfl, h1, T.cl_NewLine, T.na_NewLine_typed, rfl, x.2.1, _, rfl, .inl (SqL.of h2), rfl, flat_str _, ?_⟩
    show Q (.bl (!inV (.str f) (x.2.2.typed.map V.str))) H
    rw [inV_str]; exact q
theorem ok_make (T : Tx K mg) : FnOk P w K mg base CX0 4 T.Ledgers_make.a T.Ledgers_make.fd ["self", "scope"] (spMakeS (c3 T)) := by
  have G_Ledgers_made_lines := ok_made_lines (P := P) (w := w) (base := base) T
  have G_Ledgers_put_line := ok_put_line (P := P) (w := w) (base := base) T
  have G_OldLine_closing := ok_closing (P := P) (w := w) (base := base) T
  refine T.Ledgers_make.F.ok sc_Ledgers_make (fun vs H Q E h => by obtain ⟨a, sc, S, L, B, rfl, _⟩ := h; rfl) (fun cdv A outer s H vs Q E hr h => ?_)
  obtain ⟨a, sc, S, L, B, rfl, ⟨da, l1, l2, l3, d, os, ns, p⟩, hB, hF, q⟩ := h
  refine ⟨_, (pss_cons (ps_set (i := 2) sc_Ledgers_make.nd rfl (Or.inl rfl) (pe_meth0 (pv 0) T.cl_Ledgers T.Ledgers_made_lines.m G_Ledgers_made_lines (hr.mono (by first | decide | omega)) T.Ledgers_made_lines.b .nil pass0))
  (pss_one (ps_for PassesOwn.never rfl (pi_listK K (pe_fldK K (pv 0) rfl)) (pg_name (i := 3) sc_Ledgers_make.nd rfl (Or.inl rfl))
  (pss_one (ps_if (PW.pt (pw_and (pt_cmp (pc_dnotin (hu_of hr) (pe_fldK K (pv 3) rfl) (pv 2))) (pw_and1 (PW.pt (pw_or (pt_val (pe_fldK K (pv 3) rfl)) (pw_or1 (pt_cmpR op_eq (pv 1) pe_str (nomark _))))))))
  (pss_one (ps_expr (pe_bmK2 K PySem.F.plainAttrs_list PySem.F.slot_list_append PySem.F.type_list_append mt_append (pe_fldK K (pv 0) rfl) (pa_cons (pe_meth (pv 0) T.cl_Ledgers T.Ledgers_put_line.m G_Ledgers_put_line (hr.mono (by first | decide | omega)) T.Ledgers_put_line.b .nil pass0 (pa_cons (pe_fldK K (pv 3) rfl) (pa_cons (pe_meth0 (pv 3) T.cl_OldLine T.OldLine_closing.m G_OldLine_closing (hr.mono (by first | decide | omega)) T.OldLine_closing.b .nil pass0) (pa_cons (pe_fldK K (pv 3) rfl) pa_nil)))) pa_nil))))
  pss_nil))))), ?_⟩
  refine ⟨_, rfl, a, da, _, rfl, p.ob, rfl, a, S, L, B, da, l1, l2, l3, d, os, ns, rfl, p, by omega, fun m H1 nm s1 hm => ?_⟩
  have p1 : LedP (c3 T) (fun x => S x ∧ x ≠ m) H1 a L B da l1 l2 l3 d os ns := p.sub s1 (fun x o h hs => ⟨hs, ne_of_none h nm⟩) fun x hx => ⟨p.dom x (s1.free hx), fun e => by rw [e, hm] at hx; cases hx⟩
  have le := p.elen
  have lw := p.wf.sz
  refine ⟨_, rfl, a, T.c_Ledgers, da, _, _, rfl, p1.ob, T.cl_Ledgers, T.na_Ledgers_elder, rfl, l1, rfl, ⟨_, SqL.of p1.e⟩, for_list (K := K) (a := l1) (xs := os.map fun x => V.ref x.1)
    (fun i σ H' => (∃ v, σ = [some (.ref a), some (.str sc), some (.ref m), v]) ∧ Keep (fun x => S x ∧ x ≠ m) H1 H' ∧ ∃ ns', LedP (c3 T) (fun x => S x ∧ x ≠ m) H' a (makeGo (srcs L.later) (sc == "all") 0 (L.elder.take i) L) B da l1 l2 l3 d os ns')
    ⟨⟨none, rfl⟩, Keep.refl _ _, ns, p1⟩ (fun i σ H' _ h => by obtain ⟨_, _, ns', p'⟩ := h; exact SqL.of p'.e) ?_ ?_⟩
  · rintro i x σ H' hi ⟨⟨v, rfl⟩, kp, ns', p'⟩
    rw [List.getElem?_map] at hi
    obtain ⟨y, hy, rfl⟩ := Option.map_eq_some_iff.mp hi
    have hil : i < L.elder.length := by rw [le]; exact (List.getElem?_eq_some_iff.mp hy).1
    have hLo : L.elder[i]? = some y.2 := by rw [p.el, List.getElem?_map, hy]; rfl
    obtain ⟨dx, hx⟩ := p'.po i y hy
    have hmd : H' m = some (.dK (madeKV ns)) := kp.keep _ _ hm fun h => h.2 rfl
    have inv := makeGo_inv (there := srcs L.later) (all := sc == "all") p.wf (fun s h => h) i (by omega)
    have hfr := makeGo_fresh (there := srcs L.later) (all := sc == "all") (os := L.elder.take i) (k := 0) (L := L)
    have ltk : (L.elder.take i).length ≤ L.elder.length := List.length_take_le' i L.elder
    have eM : makeGo (srcs L.later) (sc == "all") 0 (L.elder.take (i + 1)) L = makeTurn (srcs L.later) (sc == "all") (makeGo (srcs L.later) (sc == "all") 0 (L.elder.take i) L) i y.2 := by
      rw [List.take_add_one, hLo]
      show makeGo _ _ 0 (L.elder.take i ++ [y.2]) L = _
      rw [makeGo_snoc, List.length_take, Nat.min_eq_left (by omega), Nat.zero_add]
    have eS : (!(valV (madeKV ns) (Sum.inl ((i : Int) + 1))).isSome) = decide (((i : Int) + 1) ∉ srcs L.later) := by rw [madeKV_get p]; simp
    rw [eM]
    generalize makeGo (srcs L.later) (sc == "all") 0 (L.elder.take i) L = G at p' inv hfr ⊢
    refine ⟨_, rfl, y.1, T.c_OldLine, dx, _, _, rfl, hx, T.cl_OldLine, T.na_OldLine_number, rfl, _, rfl, m, valV (madeKV ns) (Sum.inl ((i : Int) + 1)), rfl, .inl ⟨_, Sum.inl ((i : Int) + 1), .inl hmd, rfl, rfl⟩, ?_⟩
    rw [eS]
    by_cases c : ((i : Int) + 1) ∉ srcs L.later
    · refine ⟨_, rfl, iteT' (decide_eq_true c) ?_⟩
      have doit : ∀ (hc : y.2.standing = true ∨ (sc == "all") = true), tDrop (tBM K "list" rAppend (tFld K (tVar 0) "fresh") (tCons (tMeth T.c_Ledgers "put_line" (spPutLine (c3 T)) [] E0 (tVar 0) (tCons (tFld K (tVar 3) "label") (tCons (tMeth T.c_OldLine "closing" (spClosing T.c_OldLine) [] E0 (tVar 3) tNil) (tCons (tFld K (tVar 3) "number") tNil)))) tNil))
          { nx := fun σ H' => (∃ v, σ = [some (.ref a), some (.str sc), some (.ref m), v]) ∧ Keep (fun x => S x ∧ x ≠ m) H1 H' ∧ ∃ ns', LedP (c3 T) (fun x => S x ∧ x ≠ m) H' a (makeTurn (srcs L.later) (sc == "all") G i y.2) B da l1 l2 l3 d os ns', rt := Q } [some (.ref a), some (.str sc), some (.ref m), some (.ref y.1)] H' := by
        intro hc
        have eT : makeTurn (srcs L.later) (sc == "all") G i y.2 = { putM G y.2.label y.2.closing (some ((i : Int) + 1)) with fresh := G.fresh ++ [G.ever + 1] } := by
          unfold makeTurn
          rw [if_pos ⟨c, hc⟩]
        have hs : ((i : Int) + 1) ∉ srcs G.later := fun h => by
          rcases inv.2.2 _ h with h | h
          · exact c h
          · omega
        have wf : WF (putM G y.2.label y.2.closing (some ((i : Int) + 1))) B := inv.1.made (fs := G.fresh) hs (by omega) (by rw [inv.2.1]; omega)
        refine ⟨_, rfl, a, T.c_Ledgers, da, _, _, rfl, p'.ob, T.cl_Ledgers, T.na_Ledgers_fresh, rfl, .inl ⟨rfl, _, SqL.of p'.f⟩, _, rfl, a, da, _, rfl, p'.ob, rfl, _, rfl, y.1, T.c_OldLine, dx, _, _, rfl, hx, T.cl_OldLine, T.na_OldLine_label, rfl, ?_⟩
        refine ⟨_, rfl, y.1, dx, _, rfl, hx, rfl, y.1, dx, _, y.2, rfl, hx, _, rfl, y.1, T.c_OldLine, dx, _, _, rfl, hx, T.cl_OldLine, T.na_OldLine_number, rfl, ?_⟩
        refine ⟨a, y.2.label, y.2.closing, some ((i : Int) + 1), _, G, B, B, da, l1, l2, l3, d, os, ns', rfl, p', wf, by omega, fun H2 z k2 p2 => ⟨l3, _, .int (G.ever + 1), rfl, rfl, p2.f, line_lt (by rw [List.length_map]; show G.fresh.length < 100000; omega), ?_⟩⟩
        have p3 := p2.upFresh (fs := G.fresh ++ [G.ever + 1]) rfl
        rw [List.map_append] at p3
        refine ⟨⟨_, rfl⟩, (kp.trans k2).trans (Keep.mut p2.sa.2.2.2.1 (by rw [p2.f]; trivial)), ns' ++ [z], ?_⟩
        rw [eT]
        exact p3
      refine ⟨_, rfl, y.1, T.c_OldLine, dx, _, _, rfl, hx, T.cl_OldLine, T.na_OldLine_standing, rfl, _, rfl, iteB (fun c2 => iteT' rfl (doit (.inl c2))) (fun c2 => ?_)⟩
      refine ⟨_, rfl, rfl, _, rfl, iteB (fun c3 => doit (.inr ?_)) (fun c3 => ?_)⟩
      · have : sc = "all" := by
          have := of_decide_eq_true c3
          injection this
        rw [this]; simp
      · have hne : ¬ sc = "all" := fun z => by rw [z] at c3; exact absurd c3 (by decide)
        refine ⟨⟨_, rfl⟩, kp, ns', ?_⟩
        unfold makeTurn
        rw [if_neg (fun h => h.2.elim (fun z => by rw [c2] at z; cases z) fun z => hne (by simpa using z))]
        exact p'
    · refine ⟨_, rfl, iteF' (decide_eq_false c) (iteF' rfl ⟨⟨_, rfl⟩, kp, ns', ?_⟩)⟩
      unfold makeTurn
      rw [if_neg (fun h => c h.1)]
      exact p'
  · rintro σ H' ⟨⟨v, rfl⟩, kp, ns', p'⟩
    rw [List.length_map, ← le, List.take_length] at p'
    have k0 : Keep S H H' := s1.kp.trans (kp.weak fun x h => h.1)
    refine q H' k0 ⟨_, _, _, _, _, _, _, p'.sub (Same.refl H') (fun x o _ h => h.1) fun x hx => (p'.dom x hx).1⟩
theorem inV_tv (t : Option Int) (ws : List Int) : inV (tv t) (ws.map V.int) = (match t with | none => false | some i => decide (i ∈ ws)) := by
  cases t with
  | none => exact inV_non ws
  | some i => exact inV_int i ws
theorem flat_tv (t : Option Int) : flatV (tv t) = true := by cases t <;> rfl
theorem ok_drop (T : Tx K mg) : FnOk P w K mg base CX0 2 T.Ledgers_drop.a T.Ledgers_drop.fd ["self"] (spDropS (c3 T)) := by
  have G_Ledgers_source_of := ok_source_of (P := P) (w := w) (base := base) T
  refine T.Ledgers_drop.F.ok sc_Ledgers_drop (fun vs H Q E h => by obtain ⟨a, S, L, B, rfl, _⟩ := h; rfl) (fun cdv A outer s H vs Q E hr h => ?_)
  obtain ⟨a, S, L, B, rfl, ⟨da, l1, l2, l3, d, os, ns, p⟩, hB, q⟩ := h
  refine ⟨_, (pss_cons (ps_set (i := 1) sc_Ledgers_drop.nd rfl (Or.inr rfl) (pe_lc (own := [("line", 2)]) (g := (gName 2)) (tt := _) rfl sc_Ledgers_drop.nd (pi_listK K (pe_fldK K (pv 0) rfl)) (blkOk_by (N := ["self", "gone", "line"]) (sc := defScope s_Ledgers_drop) (by decide +kernel)) (fun _ _ _ _ _ => pg_name (i := 2) sc_Ledgers_drop.nd rfl (Or.inl rfl)) (fun _ _ _ _ _ => pts_one (PW.pt (pw_and (pt_cmpR op_notN (pe_fldK K (pv 2) rfl) pe_non (nomark _)) (pw_and1 (pt_not (pt_val (pe_fldK K (pe_meth (pv 0) T.cl_Ledgers T.Ledgers_source_of.m G_Ledgers_source_of (hr.mono (by first | decide | omega)) T.Ledgers_source_of.b .nil pass0 (pa_cons (pv 2) pa_nil)) rfl))))))) (fun _ _ _ _ _ => (pe_fldK K (pv 2) rfl))))
  (pss_cons (ps_fldK K (pv 0) (pe_lc (own := [("line", 2)]) (g := (gName 2)) (tt := _) rfl sc_Ledgers_drop.nd (pi_listK K (pe_fldK K (pv 0) rfl)) (blkOk_by (N := ["self", "gone", "line"]) (sc := defScope s_Ledgers_drop) (by decide +kernel)) (fun _ _ _ _ _ => pg_name (i := 2) sc_Ledgers_drop.nd rfl (Or.inl rfl)) (fun _ _ _ _ _ => pts_one (pt_cmpR (op_notIn_seqK K) (pe_fldK K (pv 2) rfl) (pv 1) (by rfl))) (fun _ _ _ _ _ => (pv 2))) rfl)
  (pss_one (ps_for PassesOwn.never rfl (pi_listK K (pe_fldK K (pv 0) rfl)) (pg_name (i := 2) sc_Ledgers_drop.nd rfl (Or.inl rfl))
  (pss_one (ps_if (pt_cmpR (op_in_seqK K) (pe_fldK K (pv 2) rfl) (pv 1) (by rfl))
  (pss_one (ps_fldK K (pv 2) pe_non rfl))
  pss_nil)))))), ?_⟩
  have ln := p.llen
  have wl := p.wf.later_len
  have le := p.elen
  dsimp only [tSeq_app, tAsg_app]
  refine lcFM (l := l2) ns (fun x => V.ref x.1) (fun x => V.int x.2.2.number) (fun x => isGone L x.2.2) (fun Q hq => ⟨_, rfl, a, T.c_Ledgers, da, _, _, rfl, p.ob, T.cl_Ledgers, T.na_Ledgers_later, rfl, hq⟩) (SqL.of p.n) (by omega) (fun x => rfl) ?_ ?_ ?_
  · intro j x H' hj s R hR
    have hx := List.mem_of_getElem? hj
    obtain ⟨⟨dx, h1⟩, _⟩ := p.qo x hx
    refine ⟨_, rfl, x.1, T.c_NewLine, dx, _, _, rfl, s _ _ h1, T.cl_NewLine, T.na_NewLine_source, rfl, rfl, _, rfl, ?_⟩
    rw [tv_non]
    unfold isGone at hR
    cases hs : x.2.2.source with
    | none =>
      rw [hs] at hR
      exact iteF' rfl (hR H' (Same.refl H'))
    | some i =>
      rw [hs] at hR
      have hi : 1 ≤ i ∧ i ≤ (L.elder.length : Int) := p.wf.src i (by rw [p.la]; exact List.mem_filterMap.mpr ⟨x.2.2, List.mem_map.mpr ⟨x, hx, rfl⟩, hs⟩)
      have hjl : (i - 1).toNat < os.length := by omega
      have hg := List.getElem?_eq_getElem hjl
      obtain ⟨dy, hy⟩ := p.po _ _ hg
      have hL : L.elder[(i - 1).toNat]? = some (os[(i - 1).toNat]).2 := by rw [p.el, List.getElem?_map, hg]; rfl
      simp only [hL] at hR
      refine iteT' rfl ⟨_, rfl, a, da, _, rfl, s _ _ p.ob, rfl, _, rfl, a, S, L, B, da, l1, l2, l3, d, os, ns, x, i, (i - 1).toNat, _, rfl, p.same s, hx, hs, by omega, hg, ?_⟩
      exact ⟨_, T.c_OldLine, dy, _, _, rfl, s _ _ hy, T.cl_OldLine, T.na_OldLine_standing, rfl, _, rfl, hR H' (Same.refl H')⟩
  · intro j x H' hj hf s R hR
    obtain ⟨⟨dx, h1⟩, _⟩ := p.qo x (List.mem_of_getElem? hj)
    exact ⟨_, rfl, x.1, T.c_NewLine, dx, _, _, rfl, s _ _ h1, T.cl_NewLine, T.na_NewLine_number, rfl, hR H' (Same.refl H')⟩
  intro gl H1 ngl s1 hgl
  have eg : (ns.filter fun x => isGone L x.2.2).map (fun x => V.int x.2.2.number) = (gone L).map V.int := by
    unfold gone
    have e : L.later.filter (isGone L) = (ns.filter fun x => isGone L x.2.2).map (·.2.2) := by rw [p.la, List.filter_map]; rfl
    rw [e, List.map_map, List.map_map]; rfl
  rw [eg] at hgl
  have p1 : LedP (c3 T) (fun x => S x ∧ x ≠ gl) H1 a L B da l1 l2 l3 d os ns := p.sub s1 (fun x o h hs => ⟨hs, ne_of_none h ngl⟩) fun x hx => ⟨p.dom x (s1.free hx), fun e => by rw [e, hgl] at hx; cases hx⟩
  dsimp only [gName_app, tSeq_app]
  rw [sFld_app]
  refine lcFM (l := l2) ns (fun x => V.ref x.1) (fun x => V.ref x.1) (fun x => decide (x.2.2.number ∉ gone L)) (fun Q hq => ⟨_, rfl, a, T.c_Ledgers, da, _, _, rfl, p1.ob, T.cl_Ledgers, T.na_Ledgers_later, rfl, hq⟩) (SqL.of p1.n) (by omega) (fun x => rfl) ?_ ?_ ?_
  · intro j x H' hj s R hR
    obtain ⟨⟨dx, h1⟩, _⟩ := p1.qo x (List.mem_of_getElem? hj)
    refine ⟨_, rfl, x.1, T.c_NewLine, dx, _, _, rfl, s _ _ h1, T.cl_NewLine, T.na_NewLine_number, rfl, _, rfl, gl, _, rfl, .inl (SqL.of (s _ _ hgl)), rfl, flat_int _, _, rfl, ?_⟩
    have e : (if true = true then !inV (.int x.2.2.number) ((gone L).map V.int) else inV (.int x.2.2.number) ((gone L).map V.int)) = decide (x.2.2.number ∉ gone L) := by rw [if_pos rfl, inV_int]; simp
    rw [e]; exact hR H' (Same.refl H')
  · intro j x H' hj hf s R hR
    exact ⟨_, rfl, hR H' (Same.refl H')⟩
  intro m H2 nm s2 hm
  have ha2 := s2 _ _ p1.ob
  have hma : m ≠ a := fun e => by rw [e, p1.ob] at nm; cases nm
  have hmg : gl ≠ m := ne_of_none hgl nm
  have hga : gl ≠ a := ne_of hgl p1.ob (by intro z; cases z)
  refine ⟨_, rfl, a, T.c_Ledgers, da, _, rfl, ha2, T.cl_Ledgers, T.na_Ledgers_later, of_decide_eq_true rfl, ?_⟩
  have k3 : ∀ b o, H1 b = some o → b ≠ a → upd H2 a (.ins T.c_Ledgers da (putF "later" (.ref m) (lF l1 l2 l3 d L.ever))) b = some o := fun b o e n => by rw [upd_ne n]; exact s2 _ _ e
  have p3 := p1.setLater (m := m) (f := fun n => decide (n.number ∉ gone L)) (H' := upd H2 a (.ins T.c_Ledgers da (putF "later" (.ref m) (lF l1 l2 l3 d L.ever)))) (by rw [upd_ne hma]; exact hm) nm upd_same k3 fun b hb => s2.free (updN hb).2
  have kp3 : Keep (fun x => S x ∧ x ≠ gl) H1 (upd H2 a (.ins T.c_Ledgers da (putF "later" (.ref m) (lF l1 l2 l3 d L.ever)))) := s2.kp.trans (Keep.mut p1.sa.1 (by rw [ha2]; trivial))
  have hgl3 := k3 _ _ hgl hga
  generalize upd H2 a (.ins T.c_Ledgers da (putF "later" (.ref m) (lF l1 l2 l3 d L.ever))) = H3 at p3 kp3 hgl3
  generalize hns : (ns.filter fun x => decide (x.2.2.number ∉ gone L)) = ns3 at p3
  generalize hl3 : L.later.filter (fun n => decide (n.number ∉ gone L)) = l0 at p3
  have wp := p3.wf.num
  have la3 : l0 = ns3.map (·.2.2) := p3.la
  refine ⟨_, rfl, a, T.c_Ledgers, da, _, _, rfl, p3.ob, T.cl_Ledgers, T.na_Ledgers_later, rfl, m, rfl, ⟨_, SqL.of p3.n⟩, for_list (K := K) (a := m) (xs := ns3.map fun x => V.ref x.1)
    (fun i σ H' => (∃ v, σ = [some (.ref a), some (.ref gl), v]) ∧ Keep (fun x => S x ∧ x ≠ gl) H3 H' ∧ ∃ ns', ns'.map (·.1) = ns3.map (·.1) ∧ LedP (c3 T) (fun x => S x ∧ x ≠ gl) H' a { L with later := updTo (nums (l0.take i)) (untie (gone L)) l0 } B da l1 m l3 d os ns')
    ⟨⟨none, rfl⟩, Keep.refl _ _, ns3, rfl, by rw [List.take_zero]; show LedP _ _ _ _ { L with later := updTo [] _ l0 } _ _ _ _ _ _ _ _; rw [updTo_nil]; exact p3⟩ (fun i σ H' _ h => by
      obtain ⟨_, _, ns', e, p'⟩ := h
      have e2 : ns'.map (fun x => V.ref x.1) = ns3.map (fun x => V.ref x.1) := by
        have := congrArg (List.map V.ref) e
        rw [List.map_map, List.map_map] at this; exact this
      have := p'.n
      rw [e2] at this; exact SqL.of this) ?_ ?_⟩
  · rintro i x σ H' hi ⟨⟨v, rfl⟩, kp, ns', ens, p'⟩
    rw [List.getElem?_map] at hi
    obtain ⟨y, hy, rfl⟩ := Option.map_eq_some_iff.mp hi
    have hl0 : l0[i]? = some y.2.2 := by rw [la3, List.getElem?_map, hy]; rfl
    have hil := (List.getElem?_eq_some_iff.mp hl0).1
    have hy1 : (ns'.map (·.1))[i]? = some y.1 := by rw [ens, List.getElem?_map, hy]; rfl
    rw [List.getElem?_map] at hy1
    obtain ⟨y', hy', e1⟩ := Option.map_eq_some_iff.mp hy1
    have nin : y.2.2.number ∉ nums (l0.take i) := by
      intro h
      obtain ⟨z, hz, ez⟩ := List.mem_map.mp h
      obtain ⟨j, hj⟩ := List.mem_iff_getElem?.mp hz
      have hjl := (List.getElem?_eq_some_iff.mp hj).1
      rw [List.length_take] at hjl
      rw [List.getElem?_take_of_lt (by omega)] at hj
      have wn : (nums l0).Pairwise (· < ·) := wp
      have hw := List.pairwise_iff_getElem.mp wn j i (by simp [nums]; omega) (by simp [nums]; omega) (by omega)
      have g1 : (nums l0)[j]'(by simp [nums]; omega) = z.number := by
        have := (List.getElem?_eq_some_iff.mp hj).2
        simp [nums, this]
      have g2 : (nums l0)[i]'(by simp [nums]; omega) = y.2.2.number := by
        have := (List.getElem?_eq_some_iff.mp hl0).2
        simp [nums, this]
      rw [g1, g2, ez] at hw
      omega
    have e2 : y'.2.2 = y.2.2 := by
      have h := p'.la
      have h1 : (updTo (nums (l0.take i)) (untie (gone L)) l0)[i]? = (ns'.map (·.2.2))[i]? := by rw [← h]
      rw [List.getElem?_map, hy'] at h1
      unfold updTo at h1
      rw [List.getElem?_map, hl0] at h1
      have h1 : some (if y.2.2.number ∈ nums (l0.take i) then untie (gone L) y.2.2 else y.2.2) = some y'.2.2 := h1
      rw [if_neg nin] at h1
      exact (Option.some.inj h1).symm
    have hm' := List.mem_of_getElem? hy'
    obtain ⟨⟨dx, hx⟩, _⟩ := p'.qo y' hm'
    have enx : nums (l0.take (i + 1)) = nums (l0.take i) ++ [y.2.2.number] := by
      rw [List.take_add_one, hl0]; simp [nums]
    have hgl' := kp.keep _ _ hgl3 fun h => h.2 rfl
    rw [← e1]
    refine ⟨_, rfl, y'.1, T.c_NewLine, dx, _, _, rfl, hx, T.cl_NewLine, T.na_NewLine_tie, rfl, _, rfl, gl, _, rfl, .inl (SqL.of hgl'), flat_tv _, flat_int _, _, rfl, ?_⟩
    show if inV (tv y'.2.2.tie) ((gone L).map V.int) = true then _ else _
    rw [inV_tv, e2]
    have keepCase : untie (gone L) y.2.2 = y.2.2 → LedP (c3 T) (fun x => S x ∧ x ≠ gl) H' a { L with later := updTo (nums (l0.take (i + 1))) (untie (gone L)) l0 } B da l1 m l3 d os ns' := fun h => by
      rw [enx, updTo_same wp (List.mem_of_getElem? hl0) h]; exact p'
    cases ht : y.2.2.tie with
    | none =>
      have hu : untie (gone L) y.2.2 = y.2.2 := by unfold untie; rw [ht]
      exact iteF' rfl ⟨⟨_, rfl⟩, kp, ns', ens, keepCase hu⟩
    | some t =>
      refine iteB (fun c => ?_) (fun c => ?_)
      · have c := of_decide_eq_true c
        have hu : untie (gone L) y.2.2 = { y.2.2 with tie := none } := by unfold untie; rw [ht]; exact if_pos c
        refine ⟨_, rfl, y'.1, T.c_NewLine, dx, _, rfl, hx, T.cl_NewLine, T.na_NewLine_tie, of_decide_eq_true rfl, ?_⟩
        have p4 := p'.upNew (x := y') (n' := { y'.2.2 with tie := none }) hm' rfl rfl rfl hx
        refine ⟨⟨_, rfl⟩, kp.trans (Keep.mut (p'.sn y' hm').1 (by rw [hx]; trivial)), ns'.map (fun z => if z.2.2.number = ({ y'.2.2 with tie := none } : NL).number then (z.1, z.2.1, { y'.2.2 with tie := none }) else z), ?_, ?_⟩
        rotate_left
        · have e4 : M.updN { L with later := updTo (nums (l0.take i)) (untie (gone L)) l0 } { y'.2.2 with tie := none } = { L with later := updTo (nums (l0.take (i + 1))) (untie (gone L)) l0 } := by
            unfold M.updN
            rw [e2, ← hu, enx, ← updTo_step wp (List.mem_of_getElem? hl0) (untie_number (gone L))]
          rw [e4] at p4
          exact p4
        · rw [List.map_map, ← ens]
          exact List.map_congr_left fun z _ => by simp only [Function.comp]; split <;> rfl
      · have c := of_decide_eq_false c
        have hu : untie (gone L) y.2.2 = y.2.2 := by unfold untie; rw [ht]; exact if_neg c
        exact ⟨⟨_, rfl⟩, kp, ns', ens, keepCase hu⟩
  · rintro σ H' ⟨⟨v, rfl⟩, kp, ns', ens, p'⟩
    rw [List.length_map] at p'
    have el : l0.take ns3.length = l0 := by rw [la3]; exact List.take_of_length_le (by rw [List.length_map]; exact Nat.le_refl _)
    rw [el, updTo_all (ks := nums l0) (fun n hn h => absurd (show n.number ∈ nums l0 from List.mem_map.mpr ⟨n, hn, rfl⟩) h), ← hl3] at p'
    have k0 : Keep S H H' := s1.kp.trans ((kp3.trans kp).weak fun x h => h.1)
    exact q H' k0 ⟨_, _, _, _, _, _, _, p'.sub (Same.refl H') (fun x o _ h => h.1) fun x hx => (p'.dom x hx).1⟩
theorem ok_follow (T : Tx K mg) : FnOk P w K mg base CX0 2 T.Ledgers_follow.a T.Ledgers_follow.fd ["self", "field", "scope"] (spFollow (c3 T)) := by
  have G_Ledgers_made_lines := ok_made_lines (P := P) (w := w) (base := base) T
  have G_Ledgers_source_of := ok_source_of (P := P) (w := w) (base := base) T
  have G_Ledgers_is_in := ok_is_in (P := P) (w := w) (base := base) T
  have G_OldLine_closing := ok_closing (P := P) (w := w) (base := base) T
  refine T.Ledgers_follow.F.ok sc_Ledgers_follow (fun vs H Q E h => by obtain ⟨a, f, sc, S, L, B, rfl, _⟩ := h; rfl) (fun cdv A outer s H vs Q E hr h => ?_)
  obtain ⟨a, f, sc, S, L, B, rfl, ⟨da, l1, l2, l3, d, os, ns, p⟩, hB, hf, q⟩ := h
  refine ⟨_, (pss_cons (ps_set (i := 3) sc_Ledgers_follow.nd rfl (Or.inl rfl) (pe_meth0 (pv 0) T.cl_Ledgers T.Ledgers_made_lines.m G_Ledgers_made_lines (hr.mono (by first | decide | omega)) T.Ledgers_made_lines.b .nil pass0))
  (pss_one (ps_lock (ps_for PassesOwn.never rfl (pi_values (pv 3)) (pg_name (i := 4) sc_Ledgers_follow.nd rfl (Or.inl rfl))
  (pss_one (ps_if (pt_val (pe_meth (pv 0) T.cl_Ledgers T.Ledgers_is_in.m G_Ledgers_is_in (hr.mono (by first | decide | omega)) T.Ledgers_is_in.b .nil pass0 (pa_cons (pv 4) (pa_cons (pv 1) (pa_cons (pv 2) pa_nil)))))
  (pss_cons (ps_set (i := 5) sc_Ledgers_follow.nd rfl (Or.inl rfl) (pe_meth (pv 0) T.cl_Ledgers T.Ledgers_source_of.m G_Ledgers_source_of (hr.mono (by first | decide | omega)) T.Ledgers_source_of.b .nil pass0 (pa_cons (pv 4) pa_nil)))
  (pss_one (ps_if (pt_cmpR op_eq (pv 1) pe_str (nomark _))
  (pss_one (ps_fldK K (pv 4) (pe_meth0 (pv 5) T.cl_OldLine T.OldLine_closing.m G_OldLine_closing (hr.mono (by first | decide | omega)) T.OldLine_closing.b .nil pass0) rfl))
  (pss_one (ps_if (pt_cmpR op_eq (pv 1) pe_str (nomark _))
  (pss_one (ps_fldK K (pv 4) (pe_fldK K (pv 5) rfl) rfl))
  (pss_one (ps_fldK K (pv 4) (pe_ifExp (pt_cmp (pc_dinN (hu_of hr) (pe_fldK K (pv 5) rfl) (pv 3))) (pe_fldK K (pe_dget (hu_of hr) (pv 3) (pe_fldK K (pv 5) rfl) (fun _ _ => rfl)) rfl) pe_non) rfl)))))))
  pss_nil)))))), ?_⟩
  refine ⟨_, rfl, a, da, _, rfl, p.ob, rfl, a, S, L, B, da, l1, l2, l3, d, os, ns, rfl, p, by omega, fun m H1 nm s1 hm => ?_⟩
  have p1 : LedP (c3 T) (fun x => S x ∧ x ≠ m) H1 a L B da l1 l2 l3 d os ns := p.sub s1 (fun x o h hs => ⟨hs, ne_of_none h nm⟩) fun x hx => ⟨p.dom x (s1.free hx), fun e => by rw [e, hm] at hx; cases hx⟩
  refine ⟨m, .dK (madeKV ns), hm, trivial, fun od => ?_⟩
  have tl : Tups H1 (upd H1 m (.frz od (.dK (madeKV ns)))) := Tups.mut (by rw [hm]; trivial)
  have p2 : LedP (c3 T) (fun x => S x ∧ x ≠ m) (upd H1 m (.frz od (.dK (madeKV ns)))) a L B da l1 l2 l3 d os ns := p1.stay (fun b o h hb => by rw [upd_ne hb.2]; exact h) tl fun x hx => p1.dom x (updN hx).2
  have hm2 : upd H1 m (.frz od (.dK (madeKV ns))) m = some (.frz od (.dK (madeKV ns))) := upd_same
  have kp2 : Keep S H (upd H1 m (.frz od (.dK (madeKV ns)))) := s1.kp.trans ⟨fun b o e n => by rw [upd_ne (fun z => n (by rw [z]; exact p.dom m nm))]; exact e, tl⟩
  generalize upd H1 m (.frz od (.dK (madeKV ns))) = H2 at p2 hm2 kp2
  generalize hmd : ns.filter (fun x => x.2.2.source.isSome) = made
  have ekv : madeKV ns = made.map fun x => (Sum.inl (x.2.2.source.getD 0), V.ref x.1) := by unfold madeKV; rw [hmd]
  have wn : (nums L.later).Pairwise (· < ·) := p.wf.num
  refine ⟨_, rfl, m, od, madeKV ns, rfl, hm2, for_valsD (d := m) (o := od) (kvs := madeKV ns)
    (fun i σ H' => (∃ v4 v5, σ = [some (.ref a), some (.str f), some (.str sc), some (.ref m), v4, v5]) ∧ Keep (fun x => S x ∧ x ≠ m) H2 H' ∧ ∃ ns', ns'.map (·.1) = ns.map (·.1) ∧ LedP (c3 T) (fun x => S x ∧ x ≠ m) H' a { L with later := updTo ((made.take i).map fun x => x.2.2.number) (follow1 L f sc) L.later } B da l1 l2 l3 d os ns')
    ⟨⟨none, none, rfl⟩, Keep.refl _ _, ns, rfl, by rw [List.take_zero]; show LedP _ _ _ _ { L with later := updTo [] _ L.later } _ _ _ _ _ _ _ _; rw [updTo_nil]; exact p2⟩
    (fun i σ H' _ h => h.2.1.keep _ _ hm2 fun z => z.2 rfl) ?_ ?_⟩
  · rintro i k x σ H' hi ⟨⟨v4, v5, rfl⟩, kp, ns', ens, p'⟩
    rw [ekv, List.getElem?_map] at hi
    obtain ⟨y, hy, e0⟩ := Option.map_eq_some_iff.mp hi
    injection e0 with e0 e0'
    subst e0'
    have hyn : y ∈ ns ∧ y.2.2.source.isSome = true := by
      have := List.mem_of_getElem? hy
      rw [← hmd] at this
      exact ⟨(List.mem_filter.mp this).1, (List.mem_filter.mp this).2⟩
    obtain ⟨s0, hs⟩ := Option.isSome_iff_exists.mp hyn.2
    have hyl : y.2.2 ∈ L.later := by rw [p.la]; exact List.mem_map.mpr ⟨y, hyn.1, rfl⟩
    have mwn : (made.map fun x => x.2.2.number).Pairwise (· < ·) := by
      have e : made.map (fun x => x.2.2.number) = (ns.filter fun x => x.2.2.source.isSome).map (fun x => x.2.2.number) := by rw [hmd]
      rw [e]
      have w2 : (ns.map fun x => x.2.2.number).Pairwise (· < ·) := by
        have := wn
        rw [p.la] at this
        simpa [nums, List.map_map, Function.comp_def] using this
      exact w2.sublist (List.filter_sublist.map _)
    have nin : y.2.2.number ∉ (made.take i).map fun x => x.2.2.number := by
      intro h
      have hil := (List.getElem?_eq_some_iff.mp hy).1
      have e : made = made.take i ++ y :: made.drop (i + 1) := by
        have hd : made.drop i = y :: made.drop (i + 1) := by
          rw [List.drop_eq_getElem_cons hil, (List.getElem?_eq_some_iff.mp hy).2]
        rw [← hd, List.take_append_drop]
      rw [e, List.map_append, List.pairwise_append] at mwn
      have := mwn.2.2 _ h y.2.2.number (by simp)
      exact Int.lt_irrefl _ this
    have fnd : ∀ z ∈ ns, ∃ z' ∈ ns', z'.1 = z.1 ∧ z'.2.2 = (if z.2.2.number ∈ (made.take i).map (fun x => x.2.2.number) then follow1 L f sc z.2.2 else z.2.2) := by
      intro z hz
      obtain ⟨r, hr⟩ := List.mem_iff_getElem?.mp hz
      have h1 : (ns'.map (·.1))[r]? = some z.1 := by rw [ens, List.getElem?_map, hr]; rfl
      rw [List.getElem?_map] at h1
      obtain ⟨z', hz', e1⟩ := Option.map_eq_some_iff.mp h1
      refine ⟨z', List.mem_of_getElem? hz', e1, ?_⟩
      have h := p'.la
      have h2 : (updTo ((made.take i).map fun x => x.2.2.number) (follow1 L f sc) L.later)[r]? = (ns'.map (·.2.2))[r]? := by rw [← h]
      rw [List.getElem?_map, hz'] at h2
      unfold updTo at h2
      rw [List.getElem?_map, p.la, List.getElem?_map, hr] at h2
      exact (Option.some.inj h2).symm
    obtain ⟨y', hm', e1, e2⟩ := fnd y hyn.1
    rw [if_neg nin] at e2
    obtain ⟨⟨dx, hx⟩, _⟩ := p'.qo y' hm'
    have enx : (made.take (i + 1)).map (fun x => x.2.2.number) = (made.take i).map (fun x => x.2.2.number) ++ [y.2.2.number] := by
      rw [List.take_add_one, hy]; simp
    have hmm := kp.keep _ _ hm2 fun z => z.2 rfl
    have keepCase : follow1 L f sc y.2.2 = y.2.2 → LedP (c3 T) (fun x => S x ∧ x ≠ m) H' a { L with later := updTo ((made.take (i + 1)).map fun x => x.2.2.number) (follow1 L f sc) L.later } B da l1 l2 l3 d os ns' := fun h => by
      rw [enx, updTo_same wn hyl h]; exact p'
    have hsi : 1 ≤ s0 ∧ s0 ≤ (L.elder.length : Int) := p.wf.src s0 (List.mem_filterMap.mpr ⟨y.2.2, hyl, hs⟩)
    have le := p.elen
    have hjl : (s0 - 1).toNat < os.length := by omega
    have hg := List.getElem?_eq_getElem hjl
    have hL : L.elder[(s0 - 1).toNat]? = some (os[(s0 - 1).toNat]).2 := by rw [p.el, List.getElem?_map, hg]; rfl
    generalize os[(s0 - 1).toNat] = z at hg hL
    obtain ⟨dz, hz⟩ := p'.po _ _ hg
    have hs' : y'.2.2.source = some s0 := by rw [e2]; exact hs
    rw [← e1]
    have escope : inScope { L with later := updTo ((made.take i).map fun x => x.2.2.number) (follow1 L f sc) L.later } f sc y'.2.2 = inScope L f sc y.2.2 := by rw [e2]; rfl
    refine ⟨_, rfl, a, da, _, rfl, p'.ob, rfl, _, rfl, _, rfl, _, rfl, a, _, _, B, da, l1, l2, l3, d, os, ns', y', f, sc, rfl, p', hm', hf, _, rfl, ?_⟩
    rw [escope]
    refine iteB (fun c => ?_) (fun c => ?_)
    · have hu0 : follow1 L f sc y.2.2 = if f = "start" then { y.2.2 with start := z.2.closing } else if f = "label" then { y.2.2 with label := z.2.label } else { y.2.2 with tie := tieOf L.later z.2.tie } := by
        have aux : ∀ n : NL, n.source = some s0 → inScope L f sc n = true → follow1 L f sc n = if f = "start" then { n with start := z.2.closing } else if f = "label" then { n with label := z.2.label } else { n with tie := tieOf L.later z.2.tie } := by
          intro n hn hc
          unfold follow1
          split
          · rename_i h; rw [hn] at h; cases h
          · rename_i s1 h
            rw [hn] at h; cases h
            rw [if_pos hc, hL]
        exact aux _ hs c
      have fin : ∀ n' : NL, follow1 L f sc y.2.2 = n' → n'.source = y.2.2.source → n'.typed = y.2.2.typed → ∃ ns2 : NS, ns2.map (·.1) = ns.map (·.1) ∧ LedP (c3 T) (fun x => S x ∧ x ≠ m) (upd H' y'.1 (.ins T.c_NewLine dx (nF n' y'.2.1))) a { L with later := updTo ((made.take (i + 1)).map fun x => x.2.2.number) (follow1 L f sc) L.later } B da l1 l2 l3 d os ns2 := by
        intro n' hn h2 h3
        have hnum : n'.number = y'.2.2.number := by rw [← hn, follow1_number, e2]
        have p4 := p'.upNew (x := y') (n' := n') hm' hnum (by rw [e2]; exact h2) (by rw [e2]; exact h3) hx
        refine ⟨ns'.map (fun z => if z.2.2.number = n'.number then (z.1, z.2.1, n') else z), ?_, ?_⟩
        rotate_left
        · have e4 : M.updN { L with later := updTo ((made.take i).map fun x => x.2.2.number) (follow1 L f sc) L.later } n' = { L with later := updTo ((made.take (i + 1)).map fun x => x.2.2.number) (follow1 L f sc) L.later } := by
            unfold M.updN
            rw [← hn, enx, ← updTo_step wn hyl (follow1_number L f sc)]
          rw [e4] at p4
          exact p4
        · rw [List.map_map, ← ens]
          exact List.map_congr_left fun z _ => by simp only [Function.comp]; split <;> rfl
      have kpn : ∀ o, Keep (fun x => S x ∧ x ≠ m) H2 (upd H' y'.1 o) := fun o => kp.trans (Keep.mut (p'.sn y' hm').1 (by rw [hx]; trivial))
      refine ⟨_, rfl, a, da, _, rfl, p'.ob, rfl, _, rfl, a, _, _, B, da, l1, l2, l3, d, os, ns', y', s0, (s0 - 1).toNat, z, rfl, p', hm', hs', by omega, hg, ?_⟩
      rcases hf with rfl | rfl | rfl
      · refine ⟨_, rfl, rfl, _, rfl, iteT' rfl ⟨_, rfl, z.1, dz, _, rfl, hz, rfl, z.1, dz, _, z.2, rfl, hz, _, rfl, y'.1, T.c_NewLine, dx, _, rfl, hx, T.cl_NewLine, T.na_NewLine_start, of_decide_eq_true rfl, ⟨_, _, rfl⟩, kpn _, ?_⟩⟩
        rw [if_pos rfl] at hu0
        have := fin _ hu0 rfl rfl
        rw [← e2] at this
        exact this
      · refine ⟨_, rfl, rfl, _, rfl, iteF' rfl ⟨_, rfl, rfl, _, rfl, iteT' rfl ⟨_, rfl, z.1, T.c_OldLine, dz, _, _, rfl, hz, T.cl_OldLine, T.na_OldLine_label, rfl, _, rfl, y'.1, T.c_NewLine, dx, _, rfl, hx, T.cl_NewLine, T.na_NewLine_label, of_decide_eq_true rfl, ⟨_, _, rfl⟩, kpn _, ?_⟩⟩⟩
        rw [if_neg (by decide), if_pos rfl] at hu0
        have := fin _ hu0 rfl rfl
        rw [← e2] at this
        exact this
      · rw [if_neg (by decide), if_neg (by decide)] at hu0
        have end1 : ∀ t : Option Int, tieOf L.later z.2.tie = t → (∃ ns2 : NS, ns2.map (·.1) = ns.map (·.1) ∧ LedP (c3 T) (fun x => S x ∧ x ≠ m) (upd H' y'.1 (.ins T.c_NewLine dx (nF { y'.2.2 with tie := t } y'.2.1))) a { L with later := updTo ((made.take (i + 1)).map fun x => x.2.2.number) (follow1 L "tie" sc) L.later } B da l1 l2 l3 d os ns2) := fun t ht => by
          rw [ht] at hu0
          have := fin _ hu0 rfl rfl
          rw [← e2] at this
          exact this
        refine ⟨_, rfl, rfl, _, rfl, iteF' rfl ⟨_, rfl, rfl, _, rfl, iteF' rfl ?_⟩⟩
        refine ⟨_, rfl, z.1, T.c_OldLine, dz, _, _, rfl, hz, T.cl_OldLine, T.na_OldLine_tie, rfl, _, rfl, ?_⟩
        cases ht : z.2.tie with
        | none =>
          refine .inr ⟨m, _, rfl, rfl, .inr ⟨od, hmm⟩, _, rfl, iteF' rfl ⟨_, rfl, y'.1, T.c_NewLine, dx, _, rfl, hx, T.cl_NewLine, T.na_NewLine_tie, of_decide_eq_true rfl, ⟨_, _, rfl⟩, kpn _, ?_⟩⟩
          exact end1 none (by rw [ht]; rfl)
        | some t =>
          have hmn : tieOf L.later (some t) = (ns.find? fun x => x.2.2.source == some t).map fun x => x.2.2.number := by
            show madeNo L.later t = _
            unfold madeNo
            rw [p.la, List.find?_map, Option.map_map]; rfl
          refine .inl ⟨m, valV (madeKV ns) (Sum.inl t), rfl, .inl ⟨_, Sum.inl t, .inr ⟨od, hmm⟩, rfl, rfl⟩, _, rfl, ?_⟩
          have hval := madeKV_val t ns
          cases hfd : ns.find? fun x => x.2.2.source == some t with
          | none =>
            rw [hfd] at hval hmn
            rw [hval]
            refine iteF' rfl ⟨_, rfl, y'.1, T.c_NewLine, dx, _, rfl, hx, T.cl_NewLine, T.na_NewLine_tie, of_decide_eq_true rfl, ⟨_, _, rfl⟩, kpn _, ?_⟩
            exact end1 none (by rw [ht, hmn]; rfl)
          | some v =>
            rw [hfd] at hval hmn
            obtain ⟨v', hv', ev1, ev2⟩ := fnd v (List.mem_of_find?_eq_some hfd)
            have evn : v'.2.2.number = v.2.2.number := by rw [ev2]; split <;> first | exact follow1_number L "tie" sc v.2.2 | rfl
            obtain ⟨⟨dv, hv⟩, _⟩ := p'.qo v' hv'
            rw [ev1] at hv
            rw [hval]
            refine iteT' rfl ⟨_, rfl, _, rfl, z.1, T.c_OldLine, dz, _, _, rfl, hz, T.cl_OldLine, T.na_OldLine_tie, rfl, m, .ref v.1, rfl, .inl ⟨_, Sum.inl t, .inr ⟨od, hmm⟩, by rw [ht]; rfl, hval.symm⟩, v.1, T.c_NewLine, dv, _, _, rfl, hv, T.cl_NewLine, T.na_NewLine_number, rfl, _, rfl, y'.1, T.c_NewLine, dx, _, rfl, hx, T.cl_NewLine, T.na_NewLine_tie, of_decide_eq_true rfl, ⟨_, _, rfl⟩, kpn _, ?_⟩
            exact end1 (some v'.2.2.number) (by rw [ht, hmn, evn]; rfl)
    · have hu : follow1 L f sc y.2.2 = y.2.2 := by
        unfold follow1
        rw [hs]
        simp only [c]
        rfl
      exact ⟨⟨_, _, rfl⟩, kp, ns', ens, keepCase hu⟩
  · rintro σ H' ⟨⟨v4, v5, rfl⟩, kp, ns', ens, p'⟩
    have hmm := kp.keep _ _ hm2 fun z => z.2 rfl
    refine ⟨hmm, ?_⟩
    have lk : (madeKV ns).length = made.length := by rw [ekv, List.length_map]
    rw [lk, List.take_length, updTo_all (fun n hn h => ?_)] at p'
    · have tf := tups_frz (o := .dK (madeKV ns)) hmm
      refine q _ ((kp2.trans (kp.weak fun x h => h.1)).trans ⟨fun b o e n => by rw [upd_ne (fun z => n (by rw [z]; exact p.dom m nm))]; exact e, tf⟩) ?_
      refine ⟨_, _, _, _, _, _, _, (p'.stay (fun b o h hb => by rw [upd_ne hb.2]; exact h) tf fun x hx => p'.dom x (updN hx).2).sub (Same.refl _) (fun x o _ h => h.1) fun x hx => (p'.dom x (updN hx).2).1⟩
    · unfold follow1
      cases hs : n.source with
      | none => rfl
      | some s0 =>
        exfalso
        rw [p.la] at hn
        obtain ⟨y, hy, rfl⟩ := List.mem_map.mp hn
        refine h (List.mem_map.mpr ⟨y, ?_, rfl⟩)
        rw [← hmd]; exact List.mem_filter.mpr ⟨hy, by rw [hs]; rfl⟩
end
end Y

/-! # Ledgers.run -/
namespace Y
open PySem L2 M
theorem refs_of : ∀ {vs : List V}, (∀ v ∈ vs, ∃ t, v = V.ref t) → ∃ tps : List Addr, vs = tps.map V.ref
  | [], _ => ⟨[], rfl⟩
  | v :: vs, h => by
    obtain ⟨t, rfl⟩ := h v (by simp)
    obtain ⟨ts, rfl⟩ := refs_of (vs := vs) fun x hx => h x (List.mem_cons_of_mem _ hx)
    exact ⟨t :: ts, rfl⟩
theorem step_shape : ∀ d ∈ STEPSD, (∃ sc, d = .tuple [.str "make", .str sc]) ∨ d = .tuple [.str "drop"] ∨ ∃ (f sc : Str), (f = "start" ∨ f = "label" ∨ f = "tie") ∧ d = .tuple [.str f, .str sc] := by
  intro d hd
  simp only [STEPSD, List.mem_cons, List.not_mem_nil, or_false] at hd
  rcases hd with rfl | rfl | rfl | rfl | rfl | rfl | rfl | rfl | rfl | rfl | rfl | rfl
  · exact .inl ⟨_, rfl⟩
  · exact .inl ⟨_, rfl⟩
  · exact .inr (.inr ⟨_, _, .inl rfl, rfl⟩)
  · exact .inr (.inr ⟨_, _, .inl rfl, rfl⟩)
  · exact .inr (.inr ⟨_, _, .inl rfl, rfl⟩)
  · exact .inr (.inr ⟨_, _, .inr (.inl rfl), rfl⟩)
  · exact .inr (.inr ⟨_, _, .inr (.inl rfl), rfl⟩)
  · exact .inr (.inr ⟨_, _, .inr (.inl rfl), rfl⟩)
  · exact .inr (.inr ⟨_, _, .inr (.inr rfl), rfl⟩)
  · exact .inr (.inr ⟨_, _, .inr (.inr rfl), rfl⟩)
  · exact .inr (.inr ⟨_, _, .inr (.inr rfl), rfl⟩)
  · exact .inr (.inl rfl)
theorem makeGo_ahead {there : List Int} {all : Bool} : ∀ {os : List OL} {k : Nat} {L : Led}, (makeGo there all k os L).ahead = L.ahead
  | [], _, _ => rfl
  | o :: os, k, L => by
    have h : (makeTurn there all L k o).ahead = L.ahead := by
      unfold makeTurn; split <;> rfl
    simp only [makeGo]
    rw [makeGo_ahead (os := os), h]
theorem dp_intsR (K : PySem.W.Frag) (H : Hp) : ∀ {l : List Int}, DpAll K H (l.map V.int) (l.map PyData.int)
  | [] => .nil
  | i :: l => .cons (.int i) (dp_intsR K H (l := l))
def aheadOf (L : Led) : List (Int × Int × Option Int) := L.later.map fun n => (n.number, n.label, n.tie)
section
variable {P : Program} {w : World} {K : PySem.W.Frag} {mg : Str → Option Value} {base : Heap}
theorem ok_run (T : Tx K mg) : FnOk P w K mg base CX0 6 T.Ledgers_run.a T.Ledgers_run.fd ["self", "steps"] (spRun K (c3 T)) := by
  have G_Ledgers_make := ok_make (P := P) (w := w) (base := base) T
  have G_Ledgers_drop := ok_drop (P := P) (w := w) (base := base) T
  have G_Ledgers_follow := ok_follow (P := P) (w := w) (base := base) T
  refine T.Ledgers_run.F.ok sc_Ledgers_run (fun vs H Q E h => by obtain ⟨a, sv, ds, S, L, B, rfl, _⟩ := h; rfl) (fun cdv A outer s H vs Q E hr h => ?_)
  obtain ⟨a, sv, ds, S, L, B, rfl, ⟨da, l1, l2, l3, d, os, ns, p⟩, hB, hsv, hrow, q⟩ := h
  refine ⟨_, (pss_cons (ps_fldK K (pv 0) (pe_dc (own := [("line", 5)]) (g := (gName 5)) (tt := tYes) rfl sc_Ledgers_run.nd (pi_listK K (pe_fldK K (pv 0) rfl)) (blkOk_by (N := ["self", "steps", "step", "there", "made", "line", "number"]) (sc := defScope s_Ledgers_run) (by decide +kernel)) (fun _ _ _ _ _ => pg_name (i := 5) sc_Ledgers_run.nd rfl (Or.inl rfl)) (fun _ _ _ _ _ => pts_nil) (fun _ _ _ _ _ => (pe_fldK K (pv 5) rfl)) (fun _ _ _ _ _ => (pe_tup (pa_cons (pe_fldK K (pv 5) rfl) (pa_cons (pe_fldK K (pv 5) rfl) pa_nil))))) rfl)
  (pss_cons (ps_fldK K (pv 0) (pe_lst pa_nil) rfl)
  (pss_cons (ps_for PassesOwn.never rfl (pi_tupK K (pv 1)) (pg_name (i := 2) sc_Ledgers_run.nd rfl (Or.inl rfl))
  (pss_one (ps_if (pt_cmpR op_eq (pe_ix (ix_tupK K) (pv 2) pe_int (fun _ _ => rfl)) pe_str (nomark _))
  (pss_one (ps_expr (pe_meth (pv 0) T.cl_Ledgers T.Ledgers_make.m G_Ledgers_make (hr.mono (by first | decide | omega)) T.Ledgers_make.b .nil pass0 (pa_cons (pe_ix (ix_tupK K) (pv 2) pe_int (fun _ _ => rfl)) pa_nil))))
  (pss_one (ps_if (pt_cmpR op_eq (pe_ix (ix_tupK K) (pv 2) pe_int (fun _ _ => rfl)) pe_str (nomark _))
  (pss_one (ps_expr (pe_meth0 (pv 0) T.cl_Ledgers T.Ledgers_drop.m G_Ledgers_drop (hr.mono (by first | decide | omega)) T.Ledgers_drop.b .nil pass0)))
  (pss_one (ps_expr (pe_meth (pv 0) T.cl_Ledgers T.Ledgers_follow.m G_Ledgers_follow (hr.mono (by first | decide | omega)) T.Ledgers_follow.b .nil pass0 (pa_cons (pe_ix (ix_tupK K) (pv 2) pe_int (fun _ _ => rfl)) (pa_cons (pe_ix (ix_tupK K) (pv 2) pe_int (fun _ _ => rfl)) pa_nil))))))))))
  (pss_cons (ps_set (i := 3) sc_Ledgers_run.nd rfl (Or.inr rfl) (pe_lc (own := [("line", 5)]) (g := (gName 5)) (tt := tYes) rfl sc_Ledgers_run.nd (pi_listK K (pe_fldK K (pv 0) rfl)) (blkOk_by (N := ["self", "steps", "step", "there", "made", "line", "number"]) (sc := defScope s_Ledgers_run) (by decide +kernel)) (fun _ _ _ _ _ => pg_name (i := 5) sc_Ledgers_run.nd rfl (Or.inl rfl)) (fun _ _ _ _ _ => pts_nil) (fun _ _ _ _ _ => (pe_fldK K (pv 5) rfl))))
  (pss_cons (ps_setLc (i := 4) (own := [("number", 6)]) (g := (gName 6)) (tt := _) rfl sc_Ledgers_run.nd rfl rfl (sw_true rfl rfl rfl (by decide +kernel)) (pi_listK K (pv 3)) (blkOk_by (N := ["self", "steps", "step", "there", "made", "line", "number"]) (sc := defScope s_Ledgers_run) (by decide +kernel)) (fun _ _ _ _ _ => pg_name (i := 6) sc_Ledgers_run.nd rfl (Or.inl rfl)) (fun _ _ _ _ _ => pts_one (pt_cmpR (op_in_seqK K) (pv 6) (pe_fldK K (pv 0) rfl) (by rfl))) (fun _ _ _ _ _ => (pv 6)))
  (pss_one (ps_ret (pe_tup (pa_cons (pv 4) (pa_cons (pe_lock (pe_lc (own := [("number", 6)]) (g := (gName 6)) (tt := _) rfl sc_Ledgers_run.nd (pi_keys (pe_fldK K (pv 0) rfl)) (blkOk_by (N := ["self", "steps", "step", "there", "made", "line", "number"]) (sc := defScope s_Ledgers_run) (by decide +kernel)) (fun _ _ _ _ _ => pg_name (i := 6) sc_Ledgers_run.nd rfl (Or.inl rfl)) (fun _ _ _ _ _ => pts_one (pt_cmpR (op_notIn_seqK K) (pv 6) (pv 3) (by rfl))) (fun _ _ _ _ _ => (pv 6)))) pa_nil)))))))))), ?_⟩
  have ln := p.llen
  have wl := p.wf.later_len
  dsimp only [tSeq_app]
  rw [sFld_app]
  refine dcT (l := l2) ns (fun x => V.ref x.1) (fun x => Sum.inl x.2.2.number) (fun x v H => ∃ t, v = V.ref t ∧ H t = some (.tup [.int x.2.2.label, tv x.2.2.tie])) (fun x v H H' h t => by obtain ⟨t', e, h⟩ := h; exact ⟨t', e, t.1 _ _ h⟩)
    (fun Q hq => ⟨_, rfl, a, T.c_Ledgers, da, _, _, rfl, p.ob, T.cl_Ledgers, T.na_Ledgers_later, rfl, hq⟩) (SqL.of p.n) (by omega) ?_ (fun x => rfl) ?_ ?_ ?_
  · have w2 : (ns.map fun x => x.2.2.number).Pairwise (· < ·) := by
      have := p.wf.num
      rw [p.la] at this
      simpa [nums, List.map_map, Function.comp_def] using this
    have e : ns.map (fun x => (Sum.inl x.2.2.number : Key)) = (ns.map fun x => x.2.2.number).map Sum.inl := by rw [List.map_map]; rfl
    rw [e]
    exact List.Pairwise.map _ (fun a b h e => by have := Sum.inl.inj e; omega) w2
  · intro j x H' hj s R hR
    obtain ⟨⟨dx, h1⟩, _⟩ := p.qo x (List.mem_of_getElem? hj)
    exact ⟨_, rfl, x.1, T.c_NewLine, dx, _, _, rfl, s _ _ h1, T.cl_NewLine, T.na_NewLine_number, rfl, hR H' (Same.refl H')⟩
  · intro j x H' hj s R hR
    obtain ⟨⟨dx, h1⟩, _⟩ := p.qo x (List.mem_of_getElem? hj)
    exact ⟨_, rfl, x.1, T.c_NewLine, dx, _, _, rfl, s _ _ h1, T.cl_NewLine, T.na_NewLine_label, rfl, _, rfl, x.1, T.c_NewLine, dx, _, _, rfl, s _ _ h1, T.cl_NewLine, T.na_NewLine_tie, rfl, line_of (by show 2 ≤ 100000; decide), fun t nt => hR _ _ (Same.new nt) ⟨t, rfl, upd_same⟩⟩
  intro D vs H1 nD s1 lv hD hvs
  have ha1 := s1 _ _ p.ob
  refine ⟨_, rfl, a, T.c_Ledgers, da, _, rfl, ha1, T.cl_Ledgers, T.na_Ledgers_ahead, of_decide_eq_true rfl, ?_⟩
  refine ⟨line_of (Nat.zero_le _), fun m nm => ⟨_, rfl, a, T.c_Ledgers, da, _, rfl, Same.new nm _ _ upd_same, T.cl_Ledgers, T.na_Ledgers_fresh, of_decide_eq_true rfl, ?_⟩⟩
  have nm1 := updN nm
  have nmH : H m = none := s1.free nm1.2
  have hDa : D ≠ a := fun e => by rw [e, p.ob] at nD; cases nD
  have hDm : D ≠ m := ne_of_none hD nm1.2
  have kk : ∀ b o, H1 b = some o → b ≠ a → upd (upd (upd H1 a (.ins T.c_Ledgers da (putF "ahead" (.ref D) (lF l1 l2 l3 d L.ever)))) m (.lst [])) a (.ins T.c_Ledgers da (putF "fresh" (.ref m) (putF "ahead" (.ref D) (lF l1 l2 l3 d L.ever)))) b = some o := fun b o e n => by
    rw [upd_ne n, upd_ne (ne_of_none e nm1.2), upd_ne n]; exact e
  have tu : Tups H1 (upd (upd (upd H1 a (.ins T.c_Ledgers da (putF "ahead" (.ref D) (lF l1 l2 l3 d L.ever)))) m (.lst [])) a (.ins T.c_Ledgers da (putF "fresh" (.ref m) (putF "ahead" (.ref D) (lF l1 l2 l3 d L.ever))))) := tups_of (p := a) (q := a) (by rw [ha1]; trivial) (by rw [ha1]; trivial) fun b o e n _ => kk b o e n
  obtain ⟨tps, rfl⟩ := refs_of (vs := vs) fun v hv => by
    obtain ⟨j, hj⟩ := List.mem_iff_getElem?.mp hv
    have hjl := (List.getElem?_eq_some_iff.mp hj).1
    obtain ⟨t, e, _⟩ := hvs j _ v (List.getElem?_eq_getElem (by omega)) hj
    exact ⟨t, e⟩
  rw [List.length_map] at lv
  have aha : AhAt (upd (upd (upd H1 a (.ins T.c_Ledgers da (putF "ahead" (.ref D) (lF l1 l2 l3 d L.ever)))) m (.lst [])) a (.ins T.c_Ledgers da (putF "fresh" (.ref m) (putF "ahead" (.ref D) (lF l1 l2 l3 d L.ever))))) D (aheadOf L) := by
    refine ⟨tps, by unfold aheadOf; rw [List.length_map, lv, ln], ?_, fun i x t e1 e2 => ?_⟩
    · have e : ((aheadOf L).zip tps).map (fun x => ((Sum.inl x.1.1 : Key), V.ref x.2)) = (ns.zip (tps.map V.ref)).map fun z => (Sum.inl z.1.2.2.number, z.2) := by
        unfold aheadOf
        rw [p.la, List.map_map, List.zip_map_left, List.zip_map_right, List.map_map, List.map_map]
        rfl
      rw [e]; exact kk _ _ hD hDa
    · unfold aheadOf at e1
      rw [p.la, List.map_map, List.getElem?_map] at e1
      obtain ⟨y, hy, rfl⟩ := Option.map_eq_some_iff.mp e1
      obtain ⟨t', e3, e4⟩ := hvs i y (.ref t) hy (by rw [List.getElem?_map, e2]; rfl)
      cases e3
      exact tu.1 _ _ e4
  have p3 := p.reroot (H' := upd (upd (upd H1 a (.ins T.c_Ledgers da (putF "ahead" (.ref D) (lF l1 l2 l3 d L.ever)))) m (.lst [])) a (.ins T.c_Ledgers da (putF "fresh" (.ref m) (putF "ahead" (.ref D) (lF l1 l2 l3 d L.ever))))) upd_same (by rw [upd_ne nm1.1, upd_same]) nmH nD aha (fun b o e n => kk b o (s1 _ _ e) n) fun b hb => s1.free (updN (updN (updN hb).2).2).2
  have kp3 : Keep S H (upd (upd (upd H1 a (.ins T.c_Ledgers da (putF "ahead" (.ref D) (lF l1 l2 l3 d L.ever)))) m (.lst [])) a (.ins T.c_Ledgers da (putF "fresh" (.ref m) (putF "ahead" (.ref D) (lF l1 l2 l3 d L.ever))))) :=
    ⟨fun b o e n => kk b o (s1 _ _ e) fun z => n (by rw [z]; exact p.sa.1), s1.tups.trans tu⟩
  generalize upd (upd (upd H1 a (.ins T.c_Ledgers da (putF "ahead" (.ref D) (lF l1 l2 l3 d L.ever)))) m (.lst [])) a (.ins T.c_Ledgers da (putF "fresh" (.ref m) (putF "ahead" (.ref D) (lF l1 l2 l3 d L.ever)))) = H3 at p3 kp3
  have hlx : ∃ b xs, sv = .ref b ∧ SqT K H b xs ∧ DpAll K H xs ds := hsv.tup_inv
  obtain ⟨b, xs, rfl, hq, hxs⟩ := hlx
  have hlen := hxs.length
  have imd : immAll ds = true := imm_all fun d hd => (step_is d (hrow.st d hd)).2.2.1
  have hl12 := hrow.len
  generalize hL0 : ({ L with fresh := [], ahead := aheadOf L } : Led) = L0 at p3
  have f0 : L0.fresh.length = 0 := by rw [← hL0]; rfl
  have eR : runM (ds.map wordsOf) L = (ds.map wordsOf).foldl stepM L0 := by rw [← hL0]; rfl
  unfold runD at q
  rw [eR] at q
  refine ⟨_, rfl, b, rfl, ⟨_, kp3.tups.sqT hq⟩, for_tup (K := K) (a := b) (xs := xs) (fun i σ H' => (∃ v2, σ = [some (.ref a), some (.ref b), v2, none, none, none, none]) ∧ Keep S H H' ∧ LedAt (c3 T) S H' a (((ds.take i).map wordsOf).foldl stepM L0) B ∧ (((ds.take i).map wordsOf).foldl stepM L0).fresh.length ≤ i * 5000 ∧ (((ds.take i).map wordsOf).foldl stepM L0).ahead = L0.ahead)
    ⟨⟨none, rfl⟩, kp3, ⟨_, _, _, _, _, _, _, p3⟩, by show L0.fresh.length ≤ _; omega, rfl⟩ (fun i σ H' _ h => h.2.1.tups.sqT hq) ?_ ?_⟩
  · rintro i x σ H' hi ⟨⟨v2, rfl⟩, kp, led, hfr, hah⟩
    obtain ⟨d0, hd1, hd2⟩ := hxs.get' hi
    have hil := (List.getElem?_eq_some_iff.mp hd1).1
    have hdm := hrow.st d0 (List.mem_of_getElem? hd1)
    have hdx := kp.tups.dp (step_is d0 hdm).2.2.1 hd2
    have eF : ((ds.take (i + 1)).map wordsOf).foldl stepM L0 = stepM (((ds.take i).map wordsOf).foldl stepM L0) (wordsOf d0) := by
      rw [List.take_add_one, hd1]
      show ((ds.take i ++ [d0]).map wordsOf).foldl stepM L0 = _
      rw [List.map_append, List.foldl_append]; rfl
    rw [eF]
    generalize ((ds.take i).map wordsOf).foldl stepM L0 = L1 at led hfr hah ⊢
    obtain ⟨da1, m1, m2, m3, d1, os1, ns1, p1⟩ := id led
    have hel : L1.elder.length ≤ B := by have := p1.wf.sz; omega
    have two : ∀ {w1 w2 : Str}, d0 = .tuple [.str w1, .str w2] → ∃ c, x = .ref c ∧ SqT K H' c [.str w1, .str w2] := by
      intro w1 w2 e
      subst e
      obtain ⟨c, ys, rfl, h1, h2⟩ := hdx.tup_inv
      cases h2 with
      | cons g1 h2 => cases h2 with
        | cons g2 h2 => cases h2; rw [g1.str_inv, g2.str_inv] at h1; exact ⟨c, rfl, h1⟩
    rcases step_shape d0 hdm with ⟨sc, rfl⟩ | rfl | ⟨f, sc, hf, rfl⟩
    · obtain ⟨c, rfl, hc⟩ := two rfl
      refine ⟨_, rfl, c, _, 0, .str "make", rfl, rfl, hc, rfl, rfl, _, rfl, iteT' rfl ⟨_, rfl, a, da1, _, rfl, p1.ob, rfl, _, rfl, c, _, 1, .str sc, rfl, rfl, hc, rfl, a, sc, S, L1, B, rfl, led, hB, by omega, fun H2 k2 led2 => ?_⟩⟩
      refine ⟨⟨_, rfl⟩, kp.trans k2, led2, ?_, by
        show (makeM (sc == "all") L1).ahead = _
        unfold makeM
        rw [makeGo_ahead]; exact hah⟩
      have := makeGo_fresh (there := srcs L1.later) (all := sc == "all") (os := L1.elder) (k := 0) (L := L1)
      show (makeM (sc == "all") L1).fresh.length ≤ _
      unfold makeM
      omega
    · obtain ⟨c, ys, rfl, h1, h2⟩ := hdx.tup_inv
      obtain ⟨v, rfl, hv⟩ := h2.inv1
      rw [hv.str_inv] at h1
      refine ⟨_, rfl, c, _, 0, .str "drop", rfl, rfl, h1, rfl, rfl, _, rfl, iteF' rfl ⟨_, rfl, c, _, 0, .str "drop", rfl, rfl, h1, rfl, rfl, _, rfl, iteT' rfl ⟨_, rfl, a, da1, _, rfl, p1.ob, rfl, a, S, L1, B, rfl, led, hB, fun H2 k2 led2 => ?_⟩⟩⟩
      exact ⟨⟨_, rfl⟩, kp.trans k2, led2, by show L1.fresh.length ≤ _; omega, hah⟩
    · obtain ⟨c, rfl, hc⟩ := two rfl
      have n1 : decide (V.str f = V.str "make") = false := by rcases hf with rfl | rfl | rfl <;> rfl
      have n2 : decide (V.str f = V.str "drop") = false := by rcases hf with rfl | rfl | rfl <;> rfl
      have eS : stepM L1 (wordsOf (.tuple [.str f, .str sc])) = followM f sc L1 := by rcases hf with rfl | rfl | rfl <;> rfl
      refine ⟨_, rfl, c, _, 0, .str f, rfl, rfl, hc, rfl, rfl, _, rfl, iteF' n1 ⟨_, rfl, c, _, 0, .str f, rfl, rfl, hc, rfl, rfl, _, rfl, iteF' n2 ⟨_, rfl, a, da1, _, rfl, p1.ob, rfl, _, rfl, c, _, 0, .str f, rfl, rfl, hc, rfl, _, rfl, c, _, 1, .str sc, rfl, rfl, hc, rfl, a, f, sc, S, L1, B, rfl, led, hB, hf, fun H2 k2 led2 => ?_⟩⟩⟩
      rw [eS]
      exact ⟨⟨_, rfl⟩, kp.trans k2, led2, by show L1.fresh.length ≤ _; omega, hah⟩
  rintro σ H4 ⟨⟨v2, rfl⟩, kp, led, hfr, hah⟩
  rw [hlen, List.take_length] at led hah
  generalize (ds.map wordsOf).foldl stepM L0 = L1 at led q hah
  have hal : L1.ahead.length ≤ B := by rw [hah, ← hL0]; show (aheadOf L).length ≤ B; unfold aheadOf; rw [List.length_map]; exact wl
  obtain ⟨da1, m1, m2, m3, d1, os1, ns1, p1⟩ := id led
  have ln1 := p1.llen
  have wl1 := p1.wf.later_len
  dsimp only [tSeq_app, tAsg_app]
  refine lcFM (l := m2) ns1 (fun x => V.ref x.1) (fun x => V.int x.2.2.number) (fun _ => true) (fun Q hq => ⟨_, rfl, a, T.c_Ledgers, da1, _, _, rfl, p1.ob, T.cl_Ledgers, T.na_Ledgers_later, rfl, hq⟩) (SqL.of p1.n) (by omega) (fun x => rfl) ?_ ?_ ?_
  · intro j x H' hj s R hR
    exact hR H' (Same.refl H')
  · intro j x H' hj hf s R hR
    obtain ⟨⟨dx, h1⟩, _⟩ := p1.qo x (List.mem_of_getElem? hj)
    exact ⟨_, rfl, x.1, T.c_NewLine, dx, _, _, rfl, s _ _ h1, T.cl_NewLine, T.na_NewLine_number, rfl, hR H' (Same.refl H')⟩
  intro D1 H5 nD1 s5 hD1
  have eD1 : (ns1.filter fun _ => true).map (fun x => V.int x.2.2.number) = (nums L1.later).map V.int := by
    rw [List.filter_eq_self.mpr (fun _ _ => rfl), p1.la]
    unfold nums
    rw [List.map_map, List.map_map]; rfl
  rw [eD1] at hD1
  have lnn : (nums L1.later).length ≤ 5000 := by unfold nums; rw [List.length_map]; omega
  dsimp only [gName_app, tAsg_app, tSeq_app]
  refine lcFM (l := D1) (nums L1.later) V.int V.int (fun z => decide (z ∈ L1.fresh)) (fun Q hq => ⟨_, rfl, hq⟩) (SqL.of hD1) (by omega) (fun x => rfl) ?_ ?_ ?_
  · intro j x H' hj s R hR
    refine ⟨_, rfl, _, rfl, a, T.c_Ledgers, da1, _, _, rfl, s _ _ (s5 _ _ p1.ob), T.cl_Ledgers, T.na_Ledgers_fresh, rfl, m3, _, rfl, .inl (SqL.of (s _ _ (s5 _ _ p1.f))), rfl, flat_int _, _, rfl, ?_⟩
    have e : (if false = true then !inV (.int x) (L1.fresh.map V.int) else inV (.int x) (L1.fresh.map V.int)) = decide (x ∈ L1.fresh) := by rw [if_neg (by decide), inV_int]
    rw [e]; exact hR H' (Same.refl H')
  · intro j x H' hj hf s R hR
    exact ⟨_, rfl, hR H' (Same.refl H')⟩
  intro D2 H6 nD2 s6 hD2
  have p6 := (p1.same s5).same s6
  have hD16 := s6 _ _ hD1
  obtain ⟨tps, tl1, hd1, _⟩ := p6.ah
  refine ⟨_, rfl, d1, _, hd1, trivial, fun od => ?_⟩
  have ha6 := p6.ob
  have nda : a ≠ d1 := ne_of ha6 hd1 (by intro z; cases z)
  have nD1d : D1 ≠ d1 := ne_of hD16 hd1 (by intro z; cases z)
  refine lcKeys (K := K) (d := d1) (o := od) (fun k => !inV (kV k) ((nums L1.later).map V.int)) (fun Q hq => ⟨_, rfl, a, T.c_Ledgers, da1, _, _, rfl, by rw [upd_ne nda]; exact ha6, T.cl_Ledgers, T.na_Ledgers_ahead, rfl, hq⟩) upd_same (by rw [List.length_map, List.length_zip]; omega) (fun x => rfl) (fun x => rfl) ?_ ?_
  · intro k H' s R hR
    refine ⟨_, rfl, _, rfl, D1, _, rfl, .inl (SqL.of (s _ _ (by rw [upd_ne nD1d]; exact hD16))), by cases k <;> rfl, flat_int _, _, rfl, ?_⟩
    rw [if_pos rfl]
    exact hR H' (Same.refl H')
  intro D3 H7 nD3 s7 hD3
  have hd7 := s7 _ _ upd_same
  refine ⟨hd7, line_of (by show 2 ≤ 100000; decide), fun t nt => ?_⟩
  have s8 : Same H6 (upd H7 d1 (.dK (((L1.ahead.zip tps).map fun x => (Sum.inl x.1.1, V.ref x.2))))) := fun b o e => by
    by_cases z : b = d1
    · rw [z, upd_same]; rw [z, hd1] at e; exact e
    · rw [upd_ne z]; exact s7 _ _ (by rw [upd_ne z]; exact e)
  have s9 : Same (upd H7 d1 (.dK (((L1.ahead.zip tps).map fun x => (Sum.inl x.1.1, V.ref x.2))))) _ := Same.new (o := .tup [.ref D2, .ref D3]) nt
  have s48 := ((s5.trans s6).trans s8).trans s9
  have eK : (((L1.ahead.zip tps).map fun x => ((Sum.inl x.1.1 : Key), V.ref x.2)).map (·.1)) = (nums L.later).map Sum.inl := by
    rw [List.map_map]
    have e : ((fun (x : Key × V) => x.1) ∘ fun (x : (Int × Int × Option Int) × Addr) => ((Sum.inl x.1.1 : Key), V.ref x.2)) = (fun y : Int × Int × Option Int => (Sum.inl y.1 : Key)) ∘ Prod.fst := rfl
    rw [e, ← List.map_map, List.map_fst_zip (by omega), hah, ← hL0]
    show (aheadOf L).map _ = _
    unfold aheadOf nums
    rw [List.map_map, List.map_map]; rfl
  have e3 : ((nums L.later).map (Sum.inl : Int → Key)).filter (fun k => !inV (kV k) ((nums L1.later).map V.int)) = ((nums L.later).filter fun z => !decide (z ∈ nums L1.later)).map Sum.inl := by
    rw [List.filter_map]
    refine congrArg _ (congrArg (fun f => List.filter f _) (funext fun z => ?_))
    show (!inV (.int z) _) = _
    rw [inV_int]
  rw [eK, e3, List.map_map] at hD3
  have nD3d : D3 ≠ d1 := fun z => by rw [z, upd_same] at nD3; cases nD3
  have h2 := s9 _ _ (s8 _ _ hD2)
  have h3 := s9 _ _ (show upd H7 d1 _ D3 = _ by rw [upd_ne nD3d]; exact hD3)
  have z2 : H4 D2 = none := s5.free nD2
  have z3 : H4 D3 = none := s5.free (s6.free (updN nD3).2)
  have z4 : H4 t = none := s5.free (s6.free (updN (s7.free (updN nt).2)).2)
  refine q _ _ (fun x => S x ∧ x ≠ D2 ∧ x ≠ D3 ∧ x ≠ t) (fun x h => h.1) (kp.trans s48.kp) (led.sub s48 (fun x o e h => ⟨h, (fun z => by rw [z, z2] at e; cases e), (fun z => by rw [z, z3] at e; cases e), (fun z => by rw [z, z4] at e; cases e)⟩) fun x hx => ⟨p1.dom x (s48.free hx), (fun z => by rw [z, h2] at hx; cases hx), (fun z => by rw [z, h3] at hx; cases hx), (fun z => by rw [z, upd_same] at hx; cases hx)⟩) ?_
  refine .tup (.inl (.inl (by rw [newS_some (p1.dom t z4) fun h => h.2.2.2 rfl]; exact upd_same))) (.cons (.lst (SqL.of (by rw [newS_some (p1.dom D2 z2) fun h => h.2.1 rfl]; exact h2)) (dp_intsR _ _)) (.cons (.lst (SqL.of (by rw [newS_some (p1.dom D3 z3) fun h => h.2.2.1 rfl]; exact h3)) (dp_intsR _ _)) .nil))
end
end Y

/-! # what is wrong behind a run -/
namespace Y
open PySem L2 M
/-- the dict of the made lines as a thing in the heap -/
def spOldWrongs (C : C3) : Sp := fun vs H Q _ => ∃ (a m : Addr) (S : Addr → Prop) (L : Led) (B : Nat) (da l1 l2 l3 d : Addr) (os : List (Addr × OL)) (ns : NS) (j : Nat) (y : Addr × OL), vs = [.ref a, .ref y.1, .ref m] ∧ LedP C S H a L B da l1 l2 l3 d os ns ∧ H m = some (.dK (madeKV ns)) ∧ os[j]? = some y ∧
  ∀ p H', H p = none → Same H H' → H' p = some (.lst ((oldWrongsM L ((j : Int) + 1) y.2).map V.str)) → Q (.ref p) H'
def spTypedWrongs (C : C3) : Sp := fun vs H Q _ => ∃ (a nl : Addr) (S : Addr → Prop) (L : Led) (B : Nat) (da l1 l2 l3 d : Addr) (os : List (Addr × OL)) (ns : NS) (x : Addr × Addr × NL) (e : Int × Int × Option Int), vs = [.ref a, .ref x.1, .ref nl] ∧ LedP C S H a L B da l1 l2 l3 d os ns ∧ x ∈ ns ∧
  L.ahead.find? (fun z => z.1 == x.2.2.number) = some e ∧ H nl = some (.lst ((nums L.later).map V.int)) ∧ ∀ p H', H p = none → Same H H' → H' p = some (.lst ((typedWrongsM L x.2.2).map V.str)) → Q (.ref p) H'
section
variable {P : Program} {w : World} {K : PySem.W.Frag} {mg : Str → Option Value} {base : Heap}
theorem ok_old_wrongs (T : Tx K mg) : FnOk P w K mg base CX0 2 T.Ledgers_old_wrongs.a T.Ledgers_old_wrongs.fd ["self", "line", "there"] (spOldWrongs (c3 T)) := by
  have G_OldLine_closing := ok_closing (P := P) (w := w) (base := base) T
  have G_NewLine_is_own := ok_is_own (P := P) (w := w) (base := base) T
  refine T.Ledgers_old_wrongs.F.ok sc_Ledgers_old_wrongs (fun vs H Q E h => by obtain ⟨a, m, S, L, B, da, l1, l2, l3, d, os, ns, j, y, rfl, _⟩ := h; rfl) (fun cdv A outer s H vs Q E hr h => ?_)
  obtain ⟨a, m, S, L, B, da, l1, l2, l3, d, os, ns, j, y, rfl, p, hm, hy, q⟩ := h
  refine ⟨_, (pss_cons (ps_if (pt_cmp (pc_dnotin (hu_of hr) (pe_fldK K (pv 1) rfl) (pv 2)))
  (pss_one (ps_ret (pe_ifExp (pt_val (pe_fldK K (pv 1) rfl)) (pe_lst (pa_cons pe_str pa_nil)) (pe_lst pa_nil))))
  pss_nil)
  (pss_cons (ps_if (pt_not (pt_val (pe_fldK K (pv 1) rfl)))
  (pss_one (ps_ret (pe_lst (pa_cons pe_str pa_nil))))
  pss_nil)
  (pss_cons (ps_set (i := 3) sc_Ledgers_old_wrongs.nd rfl (Or.inl rfl) (pe_dget (hu_of hr) (pv 2) (pe_fldK K (pv 1) rfl) (fun _ _ => rfl)))
  (C8.pss_cut (ps_set (i := 4) sc_Ledgers_old_wrongs.nd rfl (Or.inl rfl) (pe_ifExp (pt_cmpR op_ne (pe_fldK K (pv 3) rfl) (pe_meth0 (pv 1) T.cl_OldLine T.OldLine_closing.m G_OldLine_closing (hr.mono (by first | decide | omega)) T.OldLine_closing.b .nil pass0) (nomark _)) (pe_lst (pa_cons pe_str pa_nil)) (pe_lst pa_nil)))
  (C8.pss_cut (ps_if (PW.pt (pw_and (pt_not (pt_val (pe_meth (pv 3) T.cl_NewLine T.NewLine_is_own.m G_NewLine_is_own (hr.mono (by first | decide | omega)) T.NewLine_is_own.b .nil pass0 (pa_cons pe_str pa_nil)))) (pw_and1 (pt_cmpR op_ne (pe_fldK K (pv 3) rfl) (pe_fldK K (pv 1) rfl) (nomark _)))))
  (pss_one (ps_expr (pe_bmK2 K PySem.F.plainAttrs_list PySem.F.slot_list_append PySem.F.type_list_append mt_append (pv 4) (pa_cons pe_str pa_nil))))
  pss_nil)
  (C8.pss_cut (ps_set (i := 5) sc_Ledgers_old_wrongs.nd rfl (Or.inl rfl) (pe_and (pe_cmp (pc_dinN (hu_of hr) (pe_fldK K (pv 1) rfl) (pv 2))) (pe_one (pe_fldK K (pe_ix (ix_listK K) (pe_fldK K (pv 0) rfl) (pe_op op_sub (pe_fldK K (pv 1) rfl) pe_int) (fun _ _ => rfl)) rfl))))
  (C8.pss_cut (ps_if (PW.pt (pw_and (pt_not (pt_val (pe_meth (pv 3) T.cl_NewLine T.NewLine_is_own.m G_NewLine_is_own (hr.mono (by first | decide | omega)) T.NewLine_is_own.b .nil pass0 (pa_cons pe_str pa_nil)))) (pw_and1 (pt_cmpR op_ne (pe_fldK K (pv 3) rfl) (pe_ifExp (pt_val (pv 5)) (pe_fldK K (pe_dget (hu_of hr) (pv 2) (pe_fldK K (pv 1) rfl) (fun _ _ => rfl)) rfl) pe_non) (nomark _)))))
  (pss_one (ps_expr (pe_bmK2 K PySem.F.plainAttrs_list PySem.F.slot_list_append PySem.F.type_list_append mt_append (pv 4) (pa_cons pe_str pa_nil))))
  pss_nil)
  (pss_one (ps_ret (pv 4)))))))))), ?_⟩
  obtain ⟨dy, hy1⟩ := p.po j y hy
  have hval := madeKV_val ((j : Int) + 1) ns
  have hsrc : srcOf L.later ((j : Int) + 1) = (ns.find? fun x => x.2.2.source == some ((j : Int) + 1)).map (·.2.2) := by
    unfold srcOf
    rw [p.la, List.find?_map]; rfl
  unfold oldWrongsM at q
  rw [hsrc] at q
  refine ⟨_, rfl, y.1, T.c_OldLine, dy, _, _, rfl, hy1, T.cl_OldLine, T.na_OldLine_number, rfl, _, rfl, m, _, rfl, .inl ⟨_, Sum.inl ((j : Int) + 1), .inl hm, rfl, rfl⟩, _, rfl, ?_⟩
  cases hf : ns.find? fun x => x.2.2.source == some ((j : Int) + 1) with
  | none =>
    rw [hf] at hval q
    rw [hval]
    have q : ∀ p H', H p = none → Same H H' → H' p = some (.lst ((if y.2.standing = true then [("missing" : Str)] else []).map V.str)) → Q (.ref p) H' := q
    refine iteT' rfl ⟨_, rfl, y.1, T.c_OldLine, dy, _, _, rfl, hy1, T.cl_OldLine, T.na_OldLine_standing, rfl, _, rfl, iteB (fun c => ⟨line_of (by show 1 ≤ 100000; decide), fun r nr => ?_⟩) (fun c => ⟨line_of (Nat.zero_le _), fun r nr => ?_⟩)⟩
    · exact q r _ nr (Same.new nr) (by rw [upd_same, if_pos c]; rfl)
    · exact q r _ nr (Same.new nr) (by rw [upd_same, if_neg (by rw [c]; decide)]; rfl)
  | some x =>
    rw [hf] at hval q
    rw [hval]
    have hx := List.mem_of_find?_eq_some hf
    obtain ⟨⟨dx, hx1⟩, hx2⟩ := p.qo x hx
    refine iteF' rfl ?_
    have q : ∀ p H', H p = none → Same H H' → H' p = some (.lst ((if y.2.standing = false then [("stays" : Str)] else
        (if x.2.2.start ≠ y.2.closing then [("start" : Str)] else []) ++ ((if isOwnM "label" x.2.2 = false ∧ x.2.2.label ≠ y.2.label then [("label" : Str)] else []) ++ (if isOwnM "tie" x.2.2 = false ∧ x.2.2.tie ≠ wishM L y.2.tie then [("tie" : Str)] else []))).map V.str)) → Q (.ref p) H' := q
    refine ⟨_, rfl, y.1, T.c_OldLine, dy, _, _, rfl, hy1, T.cl_OldLine, T.na_OldLine_standing, rfl, _, rfl, iteB (fun c => ⟨line_of (by show 1 ≤ 100000; decide), fun r nr => ?_⟩) (fun c => ?_)⟩
    · exact q r _ nr (Same.new nr) (by rw [upd_same, if_pos (by simpa using c)]; rfl)
    rw [if_neg (by simpa using c)] at q
    refine ⟨_, rfl, _, rfl, y.1, T.c_OldLine, dy, _, _, rfl, hy1, T.cl_OldLine, T.na_OldLine_number, rfl, m, .ref x.1, rfl, .inl ⟨_, Sum.inl ((j : Int) + 1), .inl hm, rfl, hval.symm⟩, ?_⟩
    have e0 : (!decide (V.int x.2.2.start = V.int y.2.closing)) = decide (x.2.2.start ≠ y.2.closing) := by simp
    generalize hA : (if x.2.2.start ≠ y.2.closing then [("start" : Str)] else []) = wA at q
    generalize hB' : (if isOwnM "label" x.2.2 = false ∧ x.2.2.label ≠ y.2.label then [("label" : Str)] else []) = wB at q
    generalize hC : (if isOwnM "tie" x.2.2 = false ∧ x.2.2.tie ≠ wishM L y.2.tie then [("tie" : Str)] else []) = wC at q
    have lA : wA.length ≤ 1 := by rw [← hA]; split <;> simp
    have lB : wB.length ≤ 1 := by rw [← hB']; split <;> simp
    refine ⟨fun σ' H' => ∃ f, σ' = [some (.ref a), some (.ref y.1), some (.ref m), some (.ref x.1), some (.ref f), none] ∧ H f = none ∧ Same H H' ∧ H' f = some (.lst (wA.map V.str)), ?_, ?_⟩
    · refine ⟨_, rfl, x.1, T.c_NewLine, dx, _, _, rfl, hx1, T.cl_NewLine, T.na_NewLine_start, rfl, _, rfl, y.1, dy, _, rfl, hy1, rfl, y.1, dy, _, y.2, rfl, hy1, rfl, _, rfl, ?_⟩
      rw [e0]
      refine iteB (fun c1 => ⟨line_of (by show 1 ≤ 100000; decide), fun f nf => ⟨f, rfl, nf, Same.new nf, ?_⟩⟩) (fun c1 => ⟨line_of (Nat.zero_le _), fun f nf => ⟨f, rfl, nf, Same.new nf, ?_⟩⟩)
      · rw [upd_same, ← hA, if_pos (of_decide_eq_true c1)]; rfl
      · rw [upd_same, ← hA, if_neg (of_decide_eq_false c1)]; rfl
    rintro σ1 H1 ⟨f, rfl, nf, s1, hf1⟩
    refine ⟨fun σ' H' => σ' = [some (.ref a), some (.ref y.1), some (.ref m), some (.ref x.1), some (.ref f), none] ∧ Same H H' ∧ H' f = some (.lst ((wA ++ wB).map V.str)), ?_, ?_⟩
    · refine ⟨_, rfl, x.1, dx, _, rfl, s1 _ _ hx1, rfl, x.1, dx, x.2.1, x.2.2, "label", rfl, s1 _ _ hx1, s1 _ _ hx2, .inl rfl, _, rfl, iteB (fun c1 => ?_) (fun c1 => ?_)⟩
      · refine ⟨_, rfl, x.1, T.c_NewLine, dx, _, _, rfl, s1 _ _ hx1, T.cl_NewLine, T.na_NewLine_label, rfl, _, rfl, y.1, T.c_OldLine, dy, _, _, rfl, s1 _ _ hy1, T.cl_OldLine, T.na_OldLine_label, rfl, rfl, _, rfl, iteB (fun c2 => ?_) (fun c2 => ?_)⟩
        · refine ⟨_, rfl, .inl ⟨rfl, _, SqL.of hf1⟩, f, _, .str "label", rfl, rfl, hf1, line_lt (by rw [List.length_map]; omega), rfl, s1.mut nf, ?_⟩
          rw [upd_same, ← hB', if_pos ⟨by simpa using c1, by simpa using c2⟩]; simp
        · refine ⟨rfl, s1, ?_⟩
          rw [hf1, ← hB', if_neg (fun h => h.2 (by simpa using c2))]; simp
      · refine iteF' rfl ⟨rfl, s1, ?_⟩
        rw [hf1, ← hB', if_neg (fun h => by rw [h.1] at c1; cases c1)]; simp
    rintro σ2 H2 ⟨rfl, s2, hf2⟩
    have hm2 := s2 _ _ hm
    have hy2 := s2 _ _ hy1
    have sv : ∀ t : Option Int, scal (tv x.2.2.tie) (tv t) = true := fun t => by cases x.2.2.tie <;> cases t <;> rfl
    have dv : ∀ t : Option Int, (!decide (tv x.2.2.tie = tv t)) = decide (x.2.2.tie ≠ t) := fun t => by
      by_cases e : x.2.2.tie = t
      · simp [e]
      · have : ¬ tv x.2.2.tie = tv t := fun z => e (tv_inj z)
        simp [e, this]
    have wfind : ∀ t v, (ns.find? fun x => x.2.2.source == some t) = some v → ∃ z : Addr × OL, os[(t - 1).toNat]? = some z ∧ 1 ≤ t ∧ wishM L (some t) = if z.2.standing then some v.2.2.number else none := by
      intro t v hv
      have hvs : v.2.2.source = some t := by
        have := List.find?_some hv
        simpa using this
      have hvm := List.mem_of_find?_eq_some hv
      have ht := p.wf.src t (by rw [p.la]; exact List.mem_filterMap.mpr ⟨v.2.2, List.mem_map.mpr ⟨v, hvm, rfl⟩, hvs⟩)
      have le := p.elen
      have hg := List.getElem?_eq_getElem (show (t - 1).toNat < os.length by omega)
      refine ⟨_, hg, ht.1, ?_⟩
      have hL : L.elder[(t - 1).toNat]? = some (os[(t - 1).toNat]).2 := by rw [p.el, List.getElem?_map, hg]; rfl
      have hS : srcOf L.later t = some v.2.2 := by unfold srcOf; rw [p.la, List.find?_map]; show Option.map _ (ns.find? fun x => x.2.2.source == some t) = _; rw [hv]; rfl
      unfold wishM
      simp only [hS, hL]
    have wnone : ∀ t, (ns.find? fun x => x.2.2.source == some t) = none → wishM L (some t) = none := by
      intro t hv
      have hS : srcOf L.later t = none := by unfold srcOf; rw [p.la, List.find?_map]; show Option.map _ (ns.find? fun x => x.2.2.source == some t) = _; rw [hv]; rfl
      unfold wishM
      simp only [hS]
    refine ⟨fun σ' H' => σ' = [some (.ref a), some (.ref y.1), some (.ref m), some (.ref x.1), some (.ref f), some (.bl (wishM L y.2.tie).isSome)] ∧ Same H H' ∧ H' f = some (.lst ((wA ++ wB).map V.str)), ?_, ?_⟩
    · refine ⟨_, rfl, y.1, T.c_OldLine, dy, _, _, rfl, hy2, T.cl_OldLine, T.na_OldLine_tie, rfl, _, rfl, ?_⟩
      cases ht : y.2.tie with
      | none => exact .inr ⟨m, _, rfl, rfl, .inl hm2, _, rfl, iteF' rfl ⟨rfl, s2, hf2⟩⟩
      | some t =>
        have hvt := madeKV_val t ns
        refine .inl ⟨m, valV (madeKV ns) (Sum.inl t), rfl, .inl ⟨_, Sum.inl t, .inl hm2, rfl, rfl⟩, _, rfl, ?_⟩
        cases hfd : ns.find? fun x => x.2.2.source == some t with
        | none =>
          rw [hfd] at hvt
          rw [hvt, wnone t hfd]
          exact iteF' rfl ⟨rfl, s2, hf2⟩
        | some v =>
          rw [hfd] at hvt
          obtain ⟨z, hz, ht1, hw⟩ := wfind t v hfd
          obtain ⟨dz, hz1⟩ := p.po _ _ hz
          rw [hvt, hw]
          refine iteT' rfl ⟨_, rfl, a, T.c_Ledgers, da, _, _, rfl, s2 _ _ p.ob, T.cl_Ledgers, T.na_Ledgers_elder, rfl, _, rfl, y.1, T.c_OldLine, dy, _, .int t, rfl, hy2, T.cl_OldLine, T.na_OldLine_tie, by show some (tv y.2.tie) = some (V.int t); rw [ht]; rfl, _, _, rfl, rfl, l1, _, t - 1, .ref z.1, rfl, rfl, SqL.of (s2 _ _ p.e), at_of (j := (t - 1).toNat) (by omega) (by rw [List.getElem?_map, hz]; rfl), z.1, T.c_OldLine, dz, _, .bl z.2.standing, rfl, s2 _ _ hz1, T.cl_OldLine, T.na_OldLine_standing, rfl, ?_⟩
          refine ⟨?_, s2, hf2⟩
          cases z.2.standing <;> rfl
    rintro σ3 H3 ⟨rfl, s3, hf3⟩
    have hm3 := s3 _ _ hm
    have hy3 := s3 _ _ hy1
    refine ⟨fun σ' H' => (∃ v5, σ' = [some (.ref a), some (.ref y.1), some (.ref m), some (.ref x.1), some (.ref f), v5]) ∧ Same H H' ∧ H' f = some (.lst ((wA ++ (wB ++ wC)).map V.str)), ?_, ?_⟩
    · refine ⟨_, rfl, x.1, dx, _, rfl, s3 _ _ hx1, rfl, x.1, dx, x.2.1, x.2.2, "tie", rfl, s3 _ _ hx1, s3 _ _ hx2, .inr rfl, _, rfl, iteB (fun c1 => ?_) (fun c1 => ?_)⟩
      · refine ⟨_, rfl, x.1, T.c_NewLine, dx, _, _, rfl, s3 _ _ hx1, T.cl_NewLine, T.na_NewLine_tie, rfl, ?_⟩
        refine ⟨_, rfl, _, rfl, ?_⟩
        cases hW : wishM L y.2.tie with
        | none =>
          refine iteF' rfl ?_
          refine ⟨sv (none), _, rfl, ?_⟩
          rw [show (!decide (tv x.2.2.tie = V.non)) = decide (x.2.2.tie ≠ none) from dv none]
          refine iteB (fun c2 => ?_) (fun c2 => ?_)
          · refine ⟨_, rfl, .inl ⟨rfl, _, SqL.of hf3⟩, f, _, .str "tie", rfl, rfl, hf3, line_lt (by rw [List.length_map, List.length_append]; omega), ⟨_, rfl⟩, s3.mut nf, ?_⟩
            rw [upd_same, ← hC, hW, if_pos ⟨by simpa using c1, of_decide_eq_true c2⟩]; simp
          · refine ⟨⟨_, rfl⟩, s3, ?_⟩
            rw [hf3, ← hC, hW, if_neg (fun h => of_decide_eq_false c2 h.2)]; simp
        | some w0 =>
          refine iteT' rfl ?_
          cases ht : y.2.tie with
          | none => rw [ht] at hW; cases hW
          | some t =>
            have hvt := madeKV_val t ns
            cases hfd : ns.find? fun x => x.2.2.source == some t with
            | none => rw [ht, wnone t hfd] at hW; cases hW
            | some v =>
              rw [hfd] at hvt
              obtain ⟨z, hz, ht1, hw⟩ := wfind t v hfd
              obtain ⟨⟨dv', hv1⟩, _⟩ := p.qo v (List.mem_of_find?_eq_some hfd)
              have hWv : w0 = v.2.2.number := by
                rw [ht, hw] at hW
                split at hW
                · exact (Option.some.inj hW).symm
                · cases hW
              subst hWv
              refine ⟨_, rfl, _, rfl, y.1, T.c_OldLine, dy, _, _, rfl, hy3, T.cl_OldLine, T.na_OldLine_tie, rfl, m, .ref v.1, rfl, .inl ⟨_, Sum.inl t, .inl hm3, by rw [ht]; rfl, hvt.symm⟩, v.1, T.c_NewLine, dv', _, _, rfl, s3 _ _ hv1, T.cl_NewLine, T.na_NewLine_number, rfl, ?_⟩
              refine ⟨sv (some v.2.2.number), _, rfl, ?_⟩
              rw [show (!decide (tv x.2.2.tie = V.int v.2.2.number)) = decide (x.2.2.tie ≠ some v.2.2.number) from dv (some v.2.2.number)]
              refine iteB (fun c2 => ?_) (fun c2 => ?_)
              · refine ⟨_, rfl, .inl ⟨rfl, _, SqL.of hf3⟩, f, _, .str "tie", rfl, rfl, hf3, line_lt (by rw [List.length_map, List.length_append]; omega), ⟨_, rfl⟩, s3.mut nf, ?_⟩
                rw [upd_same, ← hC, hW, if_pos ⟨by simpa using c1, of_decide_eq_true c2⟩]; simp
              · refine ⟨⟨_, rfl⟩, s3, ?_⟩
                rw [hf3, ← hC, hW, if_neg (fun h => of_decide_eq_false c2 h.2)]; simp
      · refine iteF' rfl ⟨⟨_, rfl⟩, s3, ?_⟩
        rw [hf3, ← hC, if_neg (fun h => by rw [h.1] at c1; cases c1)]; simp
    rintro σ4 H4 ⟨⟨v5, rfl⟩, s4, hf4⟩
    exact ⟨_, rfl, q f H4 nf s4 hf4⟩
theorem ok_typed_wrongs (T : Tx K mg) : FnOk P w K mg base CX0 2 T.Ledgers_typed_wrongs.a T.Ledgers_typed_wrongs.fd ["self", "line", "numbers"] (spTypedWrongs (c3 T)) := by
  have G_NewLine_is_own := ok_is_own (P := P) (w := w) (base := base) T
  refine T.Ledgers_typed_wrongs.F.ok sc_Ledgers_typed_wrongs (fun vs H Q E h => by obtain ⟨a, nl, S, L, B, da, l1, l2, l3, d, os, ns, x, e, rfl, _⟩ := h; rfl) (fun cdv A outer s H vs Q E hr h => ?_)
  obtain ⟨a, nl, S, L, B, da, l1, l2, l3, d, os, ns, x, e, rfl, p, hx, he, hnl, q⟩ := h
  refine ⟨_, (pss_cons (ps_asg (pe_dget (hu_of hr) (pe_fldK K (pv 0) rfl) (pe_fldK K (pv 1) rfl) (fun _ _ => rfl)) (pg_tupK K rfl (pgs_cons (pg_name (i := 3) sc_Ledgers_typed_wrongs.nd rfl (Or.inl rfl)) (pgs_cons (pg_name (i := 4) sc_Ledgers_typed_wrongs.nd rfl (Or.inl rfl)) pgs_nil))))
  (C8.pss_cut (ps_set (i := 5) sc_Ledgers_typed_wrongs.nd rfl (Or.inl rfl) (pe_ifExp (PW.pt (pw_and (pt_val (pe_meth (pv 1) T.cl_NewLine T.NewLine_is_own.m G_NewLine_is_own (hr.mono (by first | decide | omega)) T.NewLine_is_own.b .nil pass0 (pa_cons pe_str pa_nil))) (pw_and1 (pt_cmpR op_ne (pe_fldK K (pv 1) rfl) (pv 3) (nomark _))))) (pe_lst (pa_cons pe_str pa_nil)) (pe_lst pa_nil)))
  (C8.pss_cut (ps_set (i := 6) sc_Ledgers_typed_wrongs.nd rfl (Or.inl rfl) (pe_and (pe_cmpR op_notN (pv 4) pe_non (nomark _)) (pe_one (pe_cmpR (op_notIn_seqK K) (pv 4) (pv 2) (by rfl)))))
  (C8.pss_cut (ps_if (PW.pt (pw_and (pt_val (pe_meth (pv 1) T.cl_NewLine T.NewLine_is_own.m G_NewLine_is_own (hr.mono (by first | decide | omega)) T.NewLine_is_own.b .nil pass0 (pa_cons pe_str pa_nil))) (pw_and (pt_cmpR (op_neAK K (hu65 hr)) (pe_fldK K (pv 1) rfl) (pv 4) (nomark _)) (pw_and1 (pt_not (pt_val (pv 6)))))))
  (pss_one (ps_expr (pe_bmK2 K PySem.F.plainAttrs_list PySem.F.slot_list_append PySem.F.type_list_append mt_append (pv 5) (pa_cons pe_str pa_nil))))
  pss_nil)
  (pss_one (ps_ret (pv 5))))))), ?_⟩
  obtain ⟨⟨dx, hx1⟩, hx2⟩ := p.qo x hx
  obtain ⟨kvs, hd, hk⟩ := ahead_get p.ah
  obtain ⟨t, hv, ht⟩ := (hk x.2.2.number).2 e he
  unfold typedWrongsM at q
  rw [he] at q
  have q : ∀ p H', H p = none → Same H H' → H' p = some (.lst (((if isOwnM "label" x.2.2 = true ∧ x.2.2.label ≠ e.2.1 then [("typed label" : Str)] else []) ++ (if isOwnM "tie" x.2.2 = true ∧ x.2.2.tie ≠ e.2.2 ∧ ¬ (∃ t, e.2.2 = some t ∧ t ∉ nums L.later) then [("typed tie" : Str)] else [])).map V.str)) → Q (.ref p) H' := q
  generalize hA : (if isOwnM "label" x.2.2 = true ∧ x.2.2.label ≠ e.2.1 then [("typed label" : Str)] else []) = wA at q
  generalize hB' : (if isOwnM "tie" x.2.2 = true ∧ x.2.2.tie ≠ e.2.2 ∧ ¬ (∃ t, e.2.2 = some t ∧ t ∉ nums L.later) then [("typed tie" : Str)] else []) = wB at q
  have lA : wA.length ≤ 1 := by rw [← hA]; split <;> simp
  refine ⟨_, rfl, a, T.c_Ledgers, da, _, _, rfl, p.ob, T.cl_Ledgers, T.na_Ledgers_ahead, rfl, _, rfl, x.1, T.c_NewLine, dx, _, _, rfl, hx1, T.cl_NewLine, T.na_NewLine_number, rfl, d, .ref t, rfl, .inl ⟨kvs, Sum.inl x.2.2.number, .inl hd, rfl, hv.symm⟩, t, _, rfl, SqT.of ht, rfl, _, _, rfl, _, _, rfl, rfl, ?_⟩
  refine ⟨fun σ' H' => ∃ f, σ' = [some (.ref a), some (.ref x.1), some (.ref nl), some (.int e.2.1), some (tv e.2.2), some (.ref f), none] ∧ H f = none ∧ Same H H' ∧ H' f = some (.lst (wA.map V.str)), ?_, ?_⟩
  · refine ⟨_, rfl, x.1, dx, _, rfl, hx1, rfl, x.1, dx, x.2.1, x.2.2, "label", rfl, hx1, hx2, .inl rfl, _, rfl, iteB (fun c1 => ?_) (fun c1 => ?_)⟩
    · refine ⟨_, rfl, x.1, T.c_NewLine, dx, _, _, rfl, hx1, T.cl_NewLine, T.na_NewLine_label, rfl, _, rfl, rfl, _, rfl, iteB (fun c2 => ⟨line_of (by show 1 ≤ 100000; decide), fun f nf => ⟨f, rfl, nf, Same.new nf, ?_⟩⟩) (fun c2 => ⟨line_of (Nat.zero_le _), fun f nf => ⟨f, rfl, nf, Same.new nf, ?_⟩⟩)⟩
      · rw [upd_same, ← hA, if_pos ⟨c1, by simpa using c2⟩]; rfl
      · rw [upd_same, ← hA, if_neg (fun h => h.2 (by simpa using c2))]; rfl
    · refine iteF' rfl ⟨line_of (Nat.zero_le _), fun f nf => ⟨f, rfl, nf, Same.new nf, ?_⟩⟩
      rw [upd_same, ← hA, if_neg (fun h => by rw [h.1] at c1; cases c1)]; rfl
  rintro σ1 H1 ⟨f, rfl, nf, s1, hf1⟩
  generalize hg : (match e.2.2 with | none => false | some t => decide (t ∉ nums L.later)) = g
  have hgp : (¬ (∃ t, e.2.2 = some t ∧ t ∉ nums L.later)) ↔ g = false := by
    rw [← hg]
    cases e.2.2 with
    | none => simp
    | some t => simp
  refine ⟨fun σ' H' => σ' = [some (.ref a), some (.ref x.1), some (.ref nl), some (.int e.2.1), some (tv e.2.2), some (.ref f), some (.bl g)] ∧ Same H H' ∧ H' f = some (.lst (wA.map V.str)), ?_, ?_⟩
  · refine ⟨_, rfl, rfl, _, rfl, ?_⟩
    rw [tv_non, ← hg]
    cases e.2.2 with
    | none => exact iteF' rfl ⟨rfl, s1, hf1⟩
    | some t =>
      refine iteT' rfl ⟨_, rfl, _, rfl, nl, _, rfl, .inl (SqL.of (s1 _ _ hnl)), rfl, flat_int _, ?_⟩
      have e1 : (if true = true then !inV (.int t) ((nums L.later).map V.int) else inV (.int t) ((nums L.later).map V.int)) = decide (t ∉ nums L.later) := by rw [if_pos rfl, inV_int]; simp
      show _ ∧ _
      refine ⟨?_, s1, hf1⟩
      show _ = [_, _, _, _, _, _, some (V.bl (decide (t ∉ nums L.later)))]
      rw [← e1]
      rfl
  rintro σ2 H2 ⟨rfl, s2, hf2⟩
  refine ⟨fun σ' H' => (∃ v, σ' = [some (.ref a), some (.ref x.1), some (.ref nl), some (.int e.2.1), some (tv e.2.2), some (.ref f), v]) ∧ Same H H' ∧ H' f = some (.lst ((wA ++ wB).map V.str)), ?_, ?_⟩
  · refine ⟨_, rfl, x.1, dx, _, rfl, s2 _ _ hx1, rfl, x.1, dx, x.2.1, x.2.2, "tie", rfl, s2 _ _ hx1, s2 _ _ hx2, .inr rfl, _, rfl, iteB (fun c1 => ?_) (fun c1 => ?_)⟩
    · have sv : scal (tv x.2.2.tie) (tv e.2.2) = true := by cases x.2.2.tie <;> cases e.2.2 <;> rfl
      have dv : (!decide (tv x.2.2.tie = tv e.2.2)) = decide (x.2.2.tie ≠ e.2.2) := by
        by_cases h : x.2.2.tie = e.2.2
        · simp [h]
        · have : ¬ tv x.2.2.tie = tv e.2.2 := fun z => h (tv_inj z)
          simp [h, this]
      refine ⟨_, rfl, x.1, T.c_NewLine, dx, _, _, rfl, s2 _ _ hx1, T.cl_NewLine, T.na_NewLine_tie, rfl, _, rfl, .inl ⟨sv, _, rfl, ?_⟩⟩
      rw [dv]
      refine iteB (fun c2 => ?_) (fun c2 => ?_)
      · refine ⟨_, rfl, _, rfl, iteB (fun c3 => ?_) (fun c3 => ?_)⟩
        · refine ⟨_, rfl, .inl ⟨rfl, _, SqL.of hf2⟩, f, _, .str "typed tie", rfl, rfl, hf2, line_lt (by rw [List.length_map]; omega), ⟨_, rfl⟩, s2.mut nf, ?_⟩
          rw [upd_same, ← hB', if_pos ⟨c1, of_decide_eq_true c2, hgp.mpr (by simpa using c3)⟩]; simp
        · refine ⟨⟨_, rfl⟩, s2, ?_⟩
          rw [hf2, ← hB', if_neg (fun h => by have := hgp.mp h.2.2; rw [this] at c3; cases c3)]; simp
      · refine iteF' rfl ⟨⟨_, rfl⟩, s2, ?_⟩
        rw [hf2, ← hB', if_neg (fun h => of_decide_eq_false c2 h.2.1)]; simp
    · refine iteF' rfl ⟨⟨_, rfl⟩, s2, ?_⟩
      rw [hf2, ← hB', if_neg (fun h => by rw [h.1] at c1; cases c1)]; simp
  rintro σ3 H3 ⟨⟨v, rfl⟩, s3, hf3⟩
  exact ⟨_, rfl, q f H3 nf s3 hf3⟩
end
end Y

/-! # Ledgers.wrongs -/
namespace Y
open PySem L2 M
theorem wD_imm (i : Int) (l : List (Str × Int)) : immAll (l.map (wD i)) = true := imm_all fun d hd => by
  obtain ⟨z, _, rfl⟩ := List.mem_map.mp hd
  rfl
theorem oldW_len (L : Led) (k : Int) (o : OL) : (oldWrongsM L k o).length ≤ 3 := by
  unfold oldWrongsM
  split
  · split <;> simp
  · split
    · simp
    · simp only [List.length_append]
      split <;> split <;> split <;> simp
section
variable {P : Program} {w : World} {K : PySem.W.Frag} {mg : Str → Option Value} {base : Heap}
theorem ok_wrongs (T : Tx K mg) : FnOk P w K mg base CX0 5 T.Ledgers_wrongs.a T.Ledgers_wrongs.fd ["self", "index"] (spWrongs K (c3 T)) := by
  have G_Ledgers_made_lines := ok_made_lines (P := P) (w := w) (base := base) T
  have G_Ledgers_old_wrongs := ok_old_wrongs (P := P) (w := w) (base := base) T
  have G_Ledgers_typed_wrongs := ok_typed_wrongs (P := P) (w := w) (base := base) T
  refine T.Ledgers_wrongs.F.ok sc_Ledgers_wrongs (fun vs H Q E h => by obtain ⟨a, i, S, L, B, rfl, _⟩ := h; rfl) (fun cdv A outer s H vs Q E hr h => ?_)
  obtain ⟨a, ix, S, L, B, rfl, ⟨da, l1, l2, l3, d, os, ns, p⟩, hB, q⟩ := h
  refine ⟨_, (pss_cons (ps_par (i := 2) (j := 3) rfl sc_Ledgers_wrongs.nd rfl rfl (by decide) rfl rfl (pa_cons (pe_lst pa_nil) (pa_cons (pe_meth0 (pv 0) T.cl_Ledgers T.Ledgers_made_lines.m G_Ledgers_made_lines (hr.mono (by first | decide | omega)) T.Ledgers_made_lines.b .nil pass0) pa_nil)) rfl)
  (pss_cons (ps_for PassesOwn.never rfl (pi_listK K (pe_fldK K (pv 0) rfl)) (pg_name (i := 4) sc_Ledgers_wrongs.nd rfl (Or.inr rfl))
  (pss_one (ps_expr (pe_bmK2 K PySem.F.plainAttrs_list PySem.F.slot_list_extend PySem.F.type_list_extend mt_extend (pv 2) (pa_cons (pe_lc (own := [("word", 6)]) (g := (gName 6)) (tt := tYes) rfl sc_Ledgers_wrongs.nd (pi_listK K (pe_meth (pv 0) T.cl_Ledgers T.Ledgers_old_wrongs.m G_Ledgers_old_wrongs (hr.mono (by first | decide | omega)) T.Ledgers_old_wrongs.b .nil pass0 (pa_cons (pv 4) (pa_cons (pv 3) pa_nil)))) (blkOk_by (N := ["self", "index", "found", "there", "line", "numbers", "word"]) (sc := defScope s_Ledgers_wrongs) (by decide +kernel)) (fun _ _ _ _ _ => pg_name (i := 6) sc_Ledgers_wrongs.nd rfl (Or.inl rfl)) (fun _ _ _ _ _ => pts_nil) (fun _ _ _ _ _ => (pe_tup (pa_cons (pv 6) (pa_cons (pv 1) (pa_cons (pe_fldK K (pv 4) rfl) pa_nil)))))) pa_nil)))))
  (pss_cons (ps_setLc (i := 5) (own := [("line", 4)]) (g := (gName 4)) (tt := tYes) rfl sc_Ledgers_wrongs.nd rfl rfl (sw_true rfl rfl rfl (by decide +kernel)) (pi_listK K (pe_fldK K (pv 0) rfl)) (blkOk_by (N := ["self", "index", "found", "there", "line", "numbers", "word"]) (sc := defScope s_Ledgers_wrongs) (by decide +kernel)) (fun _ _ _ _ _ => pg_name (i := 4) sc_Ledgers_wrongs.nd rfl (Or.inl rfl)) (fun _ _ _ _ _ => pts_nil) (fun _ _ _ _ _ => (pe_fldK K (pv 4) rfl)))
  (pss_cons (ps_for PassesOwn.never rfl (pi_listK K (pe_fldK K (pv 0) rfl)) (pg_name (i := 4) sc_Ledgers_wrongs.nd rfl (Or.inr rfl))
  (pss_one (ps_if (pt_cmp (pc_din (hu_of hr) (pe_fldK K (pv 4) rfl) (pe_fldK K (pv 0) rfl)))
  (pss_one (ps_expr (pe_bmK2 K PySem.F.plainAttrs_list PySem.F.slot_list_extend PySem.F.type_list_extend mt_extend (pv 2) (pa_cons (pe_lc (own := [("word", 6)]) (g := (gName 6)) (tt := tYes) rfl sc_Ledgers_wrongs.nd (pi_listK K (pe_meth (pv 0) T.cl_Ledgers T.Ledgers_typed_wrongs.m G_Ledgers_typed_wrongs (hr.mono (by first | decide | omega)) T.Ledgers_typed_wrongs.b .nil pass0 (pa_cons (pv 4) (pa_cons (pv 5) pa_nil)))) (blkOk_by (N := ["self", "index", "found", "there", "line", "numbers", "word"]) (sc := defScope s_Ledgers_wrongs) (by decide +kernel)) (fun _ _ _ _ _ => pg_name (i := 6) sc_Ledgers_wrongs.nd rfl (Or.inl rfl)) (fun _ _ _ _ _ => pts_nil) (fun _ _ _ _ _ => (pe_tup (pa_cons (pv 6) (pa_cons (pv 1) (pa_cons (pe_fldK K (pv 4) rfl) pa_nil)))))) pa_nil))))
  pss_nil)))
  (pss_one (ps_ret (pv 2))))))), ?_⟩
  have le := p.elen
  have ln := p.llen
  have wl := p.wf.later_len
  have ws := p.wf.sz
  refine ⟨line_of (Nat.zero_le _), fun f nf => ?_⟩
  have s1 : Same H (upd H f (.lst [])) := Same.new nf
  refine ⟨_, rfl, a, da, _, rfl, s1 _ _ p.ob, rfl, a, S, L, B, da, l1, l2, l3, d, os, ns, rfl, p.same s1, by omega, fun m H1 nm s2 hm => ⟨_, _, rfl, ?_⟩⟩
  have s12 := s1.trans s2
  have hf1 := s2 _ _ (show upd H f (.lst []) f = some (.lst []) from upd_same)
  have hmf : m ≠ f := fun e => by rw [e, upd_same] at nm; cases nm
  let W1 : Nat → List (Str × Int) := fun i => ((L.elder.take i).mapIdx fun j o => (oldWrongsM L ((j : Int) + 1) o).map fun w => (w, (j : Int) + 1)).flatten
  have W1s : ∀ (i : Nat) (o : OL), L.elder[i]? = some o → W1 (i + 1) = W1 i ++ (oldWrongsM L ((i : Int) + 1) o).map fun w => (w, (i : Int) + 1) := by
    intro i o ho
    have hil := (List.getElem?_eq_some_iff.mp ho).1
    show (List.mapIdx _ (L.elder.take (i + 1))).flatten = _
    rw [List.take_add_one, ho]
    show (List.mapIdx _ (L.elder.take i ++ [o])).flatten = _
    rw [List.mapIdx_append, List.flatten_append, List.length_take, Nat.min_eq_left (by omega)]
    simp [W1]
  refine ⟨_, rfl, a, T.c_Ledgers, da, _, _, rfl, s12 _ _ p.ob, T.cl_Ledgers, T.na_Ledgers_elder, rfl, l1, rfl, ⟨_, SqL.of (s12 _ _ p.e)⟩, for_list (K := K) (a := l1) (xs := os.map fun x => V.ref x.1)
    (fun i σ H' => (∃ v4 v5 v6, σ = [some (.ref a), some (.int ix), some (.ref f), some (.ref m), v4, v5, v6]) ∧ Same H H' ∧ H' m = some (.dK (madeKV ns)) ∧ (W1 i).length ≤ 3 * i ∧ ∃ fs, H' f = some (.lst fs) ∧ DpAll K H' fs ((W1 i).map (wD ix)))
    ⟨⟨none, none, none, rfl⟩, s12, hm, Nat.le_refl _, [], hf1, .nil⟩ (fun i σ H' _ h => SqL.of (h.2.1 _ _ p.e)) ?_ ?_⟩
  · rintro i x σ H' hi ⟨⟨v4, v5, v6, rfl⟩, s, hm', hle, fs, hf, hfs⟩
    rw [List.getElem?_map] at hi
    obtain ⟨y, hy, rfl⟩ := Option.map_eq_some_iff.mp hi
    have hLo : L.elder[i]? = some y.2 := by rw [p.el, List.getElem?_map, hy]; rfl
    have hil := (List.getElem?_eq_some_iff.mp hLo).1
    obtain ⟨dy, hy1⟩ := p.po i y hy
    have e1 := W1s i y.2 hLo
    have lw3 := oldW_len L ((i : Int) + 1) y.2
    refine ⟨_, rfl, .inl ⟨rfl, _, SqL.of hf⟩, ?_⟩
    dsimp only [tCons_app]
    refine lcMapN (xs := (oldWrongsM L ((i : Int) + 1) y.2).map V.str) (ds := ((oldWrongsM L ((i : Int) + 1) y.2).map fun w => (w, (i : Int) + 1)).map (wD ix))
      (fun Q hq => ⟨_, rfl, a, da, _, rfl, s _ _ p.ob, rfl, _, rfl, _, rfl, a, m, S, L, B, da, l1, l2, l3, d, os, ns, i, y, rfl, p.same s, hm', hy, fun r H2 _ s2 hr => hq r H2 s2 hr⟩) (by simp) (by rw [List.length_map]; omega) (wD_imm _ _) (fun x => rfl) ?_ ?_
    · intro j x d0 H2 hx hd s2
      rw [List.getElem?_map] at hx
      obtain ⟨w0, hw0, rfl⟩ := Option.map_eq_some_iff.mp hx
      rw [List.getElem?_map, List.getElem?_map, hw0] at hd
      cases hd
      exact gv_tup (gs_cons (gv_varS rfl) (gs_cons (gv_varI rfl) (gs_cons (gv_fld rfl (s2 _ _ (s _ _ hy1)) T.cl_OldLine T.na_OldLine_number rfl (.int _)) gs_nil))) (by simp)
    · intro D ys H2 nD s2 hD hys
      have l1' := hfs.length
      have l2' := hys.length
      simp only [List.length_map] at l1' l2'
      have tf : Tups H2 (upd H2 f (.lst (fs ++ ys))) := Tups.mut (by rw [s2 _ _ hf]; trivial)
      refine ⟨f, D, fs, ys, rfl, rfl, s2 _ _ hf, hD, line_of (by omega), ⟨_, _, _, rfl⟩, (s.trans s2).mut nf, by rw [upd_ne hmf]; exact s2 _ _ hm', by rw [e1, List.length_append, List.length_map]; omega, _, upd_same, ?_⟩
      rw [e1, List.map_append]
      exact (tf.dpAll (wD_imm _ _) (s2.dpAll hfs)).append (tf.dpAll (wD_imm _ _) hys)
  rintro σ H2 ⟨⟨v4, v5, v6, rfl⟩, s, hm', hle, fs, hf, hfs⟩
  rw [List.length_map, ← le] at hle hfs
  have hW1 : W1 L.elder.length = (L.elder.mapIdx fun j o => (oldWrongsM L ((j : Int) + 1) o).map fun w => (w, (j : Int) + 1)).flatten := by
    show (List.mapIdx _ (L.elder.take L.elder.length)).flatten = _
    rw [List.take_length]
  generalize W1 L.elder.length = V1 at hle hfs hW1
  have typ_len : ∀ n : NL, (typedWrongsM L n).length ≤ 2 := by
    intro n
    unfold typedWrongsM
    split
    · simp
    · simp only [List.length_append]
      split <;> split <;> simp
  obtain ⟨kvs, hd0, hk⟩ := ahead_get p.ah
  dsimp only [tSeq_app, tAsg_app]
  refine lcFM (l := l2) ns (fun x => V.ref x.1) (fun x => V.int x.2.2.number) (fun _ => true) (fun Q hq => ⟨_, rfl, a, T.c_Ledgers, da, _, _, rfl, s _ _ p.ob, T.cl_Ledgers, T.na_Ledgers_later, rfl, hq⟩) (SqL.of (s _ _ p.n)) (by omega) (fun x => rfl) ?_ ?_ ?_
  · intro j x H' hj s' R hR
    exact hR H' (Same.refl H')
  · intro j x H' hj hf' s' R hR
    obtain ⟨⟨dx, h1⟩, _⟩ := p.qo x (List.mem_of_getElem? hj)
    exact ⟨_, rfl, x.1, T.c_NewLine, dx, _, _, rfl, s' _ _ (s _ _ h1), T.cl_NewLine, T.na_NewLine_number, rfl, hR H' (Same.refl H')⟩
  intro nl H3 nnl s3 hnl
  have enl : (ns.filter fun _ => true).map (fun x => V.int x.2.2.number) = (nums L.later).map V.int := by
    rw [List.filter_eq_self.mpr (fun _ _ => rfl), p.la]
    unfold nums
    rw [List.map_map, List.map_map]; rfl
  rw [enl] at hnl
  have hf3 := s3 _ _ hf
  have hnlf : nl ≠ f := fun e => by rw [e, hf] at nnl; cases nnl
  have s03 := s.trans s3
  let W2 : Nat → List (Str × Int) := fun i => V1 ++ ((L.later.take i).map fun n => (typedWrongsM L n).map fun w => (w, n.number)).flatten
  have W2s : ∀ (i : Nat) (n : NL), L.later[i]? = some n → W2 (i + 1) = W2 i ++ (typedWrongsM L n).map fun w => (w, n.number) := by
    intro i n hn
    show V1 ++ (List.map _ (L.later.take (i + 1))).flatten = _
    rw [List.take_add_one, hn]
    show V1 ++ (List.map _ (L.later.take i ++ [n])).flatten = _
    rw [List.map_append, List.flatten_append]
    simp [W2]
  dsimp only [gName_app]
  refine ⟨_, rfl, a, T.c_Ledgers, da, _, _, rfl, s03 _ _ p.ob, T.cl_Ledgers, T.na_Ledgers_later, rfl, l2, rfl, ⟨_, SqL.of (s03 _ _ p.n)⟩, for_list (K := K) (a := l2) (xs := ns.map fun x => V.ref x.1)
    (fun i σ H' => (∃ v4 v6, σ = [some (.ref a), some (.int ix), some (.ref f), some (.ref m), v4, some (.ref nl), v6]) ∧ Same H H' ∧ H' nl = some (.lst ((nums L.later).map V.int)) ∧ (W2 i).length ≤ V1.length + 2 * i ∧ ∃ fs, H' f = some (.lst fs) ∧ DpAll K H' fs ((W2 i).map (wD ix)))
    ⟨⟨_, _, rfl⟩, s03, hnl, by simp [W2], fs, hf3, by simpa [W2] using s3.dpAll hfs⟩ (fun i σ H' _ h => SqL.of (h.2.1 _ _ p.n)) ?_ ?_⟩
  · rintro i x σ H' hi ⟨⟨v4, v6, rfl⟩, s', hnl', hle', fs', hf', hfs'⟩
    rw [List.getElem?_map] at hi
    obtain ⟨y, hy, rfl⟩ := Option.map_eq_some_iff.mp hi
    have hLn : L.later[i]? = some y.2.2 := by rw [p.la, List.getElem?_map, hy]; rfl
    have hil := (List.getElem?_eq_some_iff.mp hLn).1
    have hym := List.mem_of_getElem? hy
    obtain ⟨⟨dx, hx1⟩, hx2⟩ := p.qo y hym
    have e1 := W2s i y.2.2 hLn
    have tl := typ_len y.2.2
    refine ⟨_, rfl, y.1, T.c_NewLine, dx, _, _, rfl, s' _ _ hx1, T.cl_NewLine, T.na_NewLine_number, rfl, _, rfl, a, T.c_Ledgers, da, _, _, rfl, s' _ _ p.ob, T.cl_Ledgers, T.na_Ledgers_ahead, rfl, d, valV kvs (Sum.inl y.2.2.number), rfl, .inl ⟨kvs, Sum.inl y.2.2.number, .inl (s' _ _ hd0), rfl, rfl⟩, _, rfl, ?_⟩
    cases hfd : L.ahead.find? (fun z => z.1 == y.2.2.number) with
    | none =>
      rw [(hk _).1 hfd]
      have e0 : typedWrongsM L y.2.2 = [] := by unfold typedWrongsM; rw [hfd]
      rw [e0, List.map_nil, List.append_nil] at e1
      refine iteF' rfl ⟨⟨_, _, rfl⟩, s', hnl', by rw [e1]; omega, fs', hf', by rw [e1]; exact hfs'⟩
    | some e =>
      obtain ⟨t, hv, _⟩ := (hk _).2 e hfd
      rw [hv]
      refine iteT' rfl ⟨_, rfl, .inl ⟨rfl, _, SqL.of hf'⟩, ?_⟩
      dsimp only [tCons_app]
      refine lcMapN (xs := (typedWrongsM L y.2.2).map V.str) (ds := ((typedWrongsM L y.2.2).map fun w => (w, y.2.2.number)).map (wD ix))
        (fun Q hq => ⟨_, rfl, a, da, _, rfl, s' _ _ p.ob, rfl, _, rfl, _, rfl, a, nl, S, L, B, da, l1, l2, l3, d, os, ns, y, e, rfl, p.same s', hym, hfd, hnl', fun r H2 _ s2 hr => hq r H2 s2 hr⟩) (by simp) (by rw [List.length_map]; omega) (wD_imm _ _) (fun x => rfl) ?_ ?_
      · intro j x d0 H2 hx hd s2
        rw [List.getElem?_map] at hx
        obtain ⟨w0, hw0, rfl⟩ := Option.map_eq_some_iff.mp hx
        rw [List.getElem?_map, List.getElem?_map, hw0] at hd
        cases hd
        exact gv_tup (gs_cons (gv_varS rfl) (gs_cons (gv_varI rfl) (gs_cons (gv_fld rfl (s2 _ _ (s' _ _ hx1)) T.cl_NewLine T.na_NewLine_number rfl (.int _)) gs_nil))) (by simp)
      · intro D ys H2 nD s2 hD hys
        have l1' := hfs'.length
        have l2' := hys.length
        simp only [List.length_map] at l1' l2'
        have tf : Tups H2 (upd H2 f (.lst (fs' ++ ys))) := Tups.mut (by rw [s2 _ _ hf']; trivial)
        refine ⟨f, D, fs', ys, rfl, rfl, s2 _ _ hf', hD, line_of (by omega), ⟨_, _, rfl⟩, (s'.trans s2).mut nf, by rw [upd_ne hnlf]; exact s2 _ _ hnl', by rw [e1, List.length_append, List.length_map]; omega, _, upd_same, ?_⟩
        rw [e1, List.map_append]
        exact (tf.dpAll (wD_imm _ _) (s2.dpAll hfs')).append (tf.dpAll (wD_imm _ _) hys)
  rintro σ H4 ⟨⟨v4, v6, rfl⟩, s4, hnl4, hle4, fs4, hf4, hfs4⟩
  have eW : W2 (ns.map fun x => V.ref x.1).length = wrongsM L := by
    show V1 ++ (List.map _ (L.later.take (ns.map fun x => V.ref x.1).length)).flatten = _
    rw [List.length_map, ← ln, List.take_length, hW1]; rfl
  rw [eW] at hfs4
  exact ⟨_, rfl, q f fs4 H4 nf s4 hf4 hfs4⟩
end
end Y

/-! # twins -/
namespace Y
open PySem L2 M
def spOTwin (C : Addr) : Sp := fun vs H Q _ => ∃ (x dx : Addr) (n : Int) (o : OL), vs = [.ref x] ∧ H x = some (.ins C dx (oF n o)) ∧
  ∀ y H', Same H H' → H y = none → (∃ dy, H' y = some (.ins C dy (oF n o))) → Q (.ref y) H'
def spNTwin (C : Addr) : Sp := fun vs H Q _ => ∃ (x dx t : Addr) (n : NL), vs = [.ref x] ∧ H x = some (.ins C dx (nF n t)) ∧ H t = some (.lst (n.typed.map V.str)) ∧
  ∀ y u H', Same H H' → H y = none → H u = none → (∃ dy, H' y = some (.ins C dy (nF n u))) → H' u = some (.lst (n.typed.map V.str)) → Q (.ref y) H'
/-- the ledgers' twin: all of it is new -/
def spLTwin (C : C3) : Sp := fun vs H Q _ => ∃ (a : Addr) (S : Addr → Prop) (L : Led) (B : Nat), vs = [.ref a] ∧ LedAt C S H a L B ∧ B ≤ 5000 ∧
  ∀ b H', Same H H' → H b = none → LedAt C (fun x => H x = none) H' b L B → Q (.ref b) H'
/-- a list comprehension over a list, in general -/
theorem lcGen {K : PySem.W.Frag} {tl te : TE} {i : Nat} {σ : St} {H : Hp} {Q : VK} {l : Addr} {xs : List V} (htl : ∀ Q : VK, Q (.ref l) H → tl σ H Q) (hl : SqL K H l xs) (hz : xs.length < 100000)
    (hw : ∀ x, wipe ((wipe σ [i]).set i (some x)) [i] = wipe σ [i])
    (q : ∀ D, H D = none → ∃ Pv : List V → Hp → Prop, Pv [] (upd H D (.lst [])) ∧ (∀ ys H' o, Same H H' → Pv ys H' → Pv ys (upd H' D o)) ∧
      (∀ (j : Nat) x ys H', xs[j]? = some x → ys.length = j → Same H H' → H' D ≠ none → Pv ys H' → ∀ R : VK, (∀ v H2, Same H' H2 → Pv (ys ++ [v]) H2 → R v H2) → te ((wipe σ [i]).set i (some x)) H' R) ∧
      (∀ ys H', ys.length = xs.length → Same H H' → H' D = some (.lst ys) → Pv ys H' → Q (.ref D) H')) : tLc (iList K tl) (gName i) tYes te [i] σ H Q := by
  refine htl _ ⟨l, rfl, ⟨_, hl⟩, fun D nD => ?_⟩
  obtain ⟨Pv, h0, hup, each, fin⟩ := q D nD
  refine lc_list (K := K) (a := l) (xs := xs) (fun j H' => Same H H' ∧ ∃ ys, H' D = some (.lst ys) ∧ ys.length = j ∧ Pv ys H') ⟨Same.new nD, [], upd_same, rfl, h0⟩ (fun j H' _ h => hl.same h.1) ?_ ?_
  · rintro j x H' hx ⟨s, ys, hD, hlen, p⟩
    have hj : j < xs.length := (List.getElem?_eq_some_iff.mp hx).1
    refine ⟨hw x, ?_⟩
    refine each j x ys H' hx hlen s (by rw [hD]; simp) p _ fun v H2 s2 p2 => ⟨ys, s2 _ _ hD, ?_, ?_⟩
    · refine line_lt ?_
      omega
    · exact ⟨(s.trans s2).mut nD, _, upd_same, by simp [hlen], hup _ _ _ (s.trans s2) p2⟩
  · rintro H' ⟨s, ys, hD, hlen, p⟩
    exact fin ys H' hlen s hD p
section
variable {P : Program} {w : World} {K : PySem.W.Frag} {mg : Str → Option Value} {base : Heap}
theorem ok_OldLine_twin (T : Tx K mg) : FnOk P w K mg base CX0 3 T.OldLine_twin.a T.OldLine_twin.fd ["self"] (spOTwin T.c_OldLine) := by
  have G_OldLine_init := ok_OldLine_init (P := P) (w := w) (base := base) T
  refine T.OldLine_twin.F.ok sc_OldLine_twin (fun vs H Q E h => by obtain ⟨x, dx, n, o, rfl, _⟩ := h; rfl) (fun cdv A outer s H vs Q E hr h => ?_)
  obtain ⟨x, dx, n, o, rfl, hx, q⟩ := h
  refine ⟨_, (pss_cons (ps_set (i := 1) sc_OldLine_twin.nd rfl (Or.inl rfl) (pe_make T.mk_OldLine G_OldLine_init (hr.mono (by first | decide | omega)) rfl T.g_OldLine T.OldLine_init.b .nil pass0 (pa_cons (pe_fldK K (pv 0) rfl) (pa_cons (pe_fldK K (pv 0) rfl) (pa_cons (pe_fldK K (pv 0) rfl) pa_nil)))))
  (pss_cons (ps_asg (pe_tup (pa_cons (pe_fldK K (pv 0) rfl) (pa_cons (pe_fldK K (pv 0) rfl) (pa_cons (pe_fldK K (pv 0) rfl) pa_nil)))) (pg_tupK K rfl (pgs_cons (pg_fldK K (pv 1)) (pgs_cons (pg_fldK K (pv 1)) (pgs_cons (pg_fldK K (pv 1)) pgs_nil)))))
  (pss_one (ps_ret (pv 1))))), ?_⟩
  refine ⟨_, rfl, x, T.c_OldLine, dx, _, _, rfl, hx, T.cl_OldLine, T.na_OldLine_number, rfl, ?_⟩
  refine ⟨_, rfl, x, T.c_OldLine, dx, _, _, rfl, hx, T.cl_OldLine, T.na_OldLine_label, rfl, ?_⟩
  refine ⟨_, rfl, x, T.c_OldLine, dx, _, _, rfl, hx, T.cl_OldLine, T.na_OldLine_start, rfl, ?_⟩
  refine fun y dy ny ndy nd2 => ⟨y, dy, n, o.label, o.start, rfl, upd_same, rfl, ?_⟩
  rw [upd_upd]
  have nxy : x ≠ y := ne_of_none hx ny
  have nxd : x ≠ dy := ne_of_none hx ndy
  have hx1 : ∀ u, upd (upd H dy (.own y)) y u x = some (.ins T.c_OldLine dx (oF n o)) := fun u => by rw [upd_ne nxy, upd_ne nxd]; exact hx
  refine ⟨_, rfl, x, T.c_OldLine, dx, _, _, rfl, hx1 _, T.cl_OldLine, T.na_OldLine_moves, rfl, ?_⟩
  refine ⟨_, rfl, x, T.c_OldLine, dx, _, _, rfl, hx1 _, T.cl_OldLine, T.na_OldLine_tie, rfl, ?_⟩
  refine ⟨_, rfl, x, T.c_OldLine, dx, _, _, rfl, hx1 _, T.cl_OldLine, T.na_OldLine_standing, rfl, ?_⟩
  refine ⟨line_of (by show 3 ≤ 100000; decide), fun t nt => ?_⟩
  have nyt : y ≠ t := fun z => by rw [← z, upd_same] at nt; cases nt
  refine ⟨t, _, rfl, .inl (.inl upd_same), rfl, ?_⟩
  refine ⟨_, _, rfl, _, rfl, y, T.c_OldLine, dy, _, rfl, by rw [upd_ne nyt]; exact upd_same, T.cl_OldLine, T.na_OldLine_moves, of_decide_eq_true rfl, ?_⟩
  refine ⟨_, _, rfl, _, rfl, y, T.c_OldLine, dy, _, rfl, upd_same, T.cl_OldLine, T.na_OldLine_tie, of_decide_eq_true rfl, ?_⟩
  refine ⟨_, _, rfl, _, rfl, y, T.c_OldLine, dy, _, rfl, upd_same, T.cl_OldLine, T.na_OldLine_standing, of_decide_eq_true rfl, ?_⟩
  refine ⟨rfl, _, rfl, ?_⟩
  refine q y _ (fun b u e => ?_) ny ⟨dy, upd_same⟩
  have n1 : b ≠ y := ne_of_none e ny
  have n2 : b ≠ dy := ne_of_none e ndy
  have n3 : b ≠ t := fun z => by rw [z] at e n1 n2; rw [upd_ne n1, upd_ne n2, e] at nt; cases nt
  rw [upd_ne n1, upd_ne n1, upd_ne n1, upd_ne n3, upd_ne n1, upd_ne n2]; exact e
theorem ok_NewLine_twin (T : Tx K mg) : FnOk P w K mg base CX0 3 T.NewLine_twin.a T.NewLine_twin.fd ["self"] (spNTwin T.c_NewLine) := by
  have G_NewLine_init := ok_NewLine_init (P := P) (w := w) (base := base) T
  refine T.NewLine_twin.F.ok sc_NewLine_twin (fun vs H Q E h => by obtain ⟨x, dx, t, n, rfl, _⟩ := h; rfl) (fun cdv A outer s H vs Q E hr h => ?_)
  obtain ⟨x, dx, t0, n, rfl, hx, ht0, q⟩ := h
  refine ⟨_, (pss_cons (ps_set (i := 1) sc_NewLine_twin.nd rfl (Or.inl rfl) (pe_make T.mk_NewLine G_NewLine_init (hr.mono (by first | decide | omega)) rfl T.g_NewLine T.NewLine_init.b .nil pass0 (pa_cons (pe_fldK K (pv 0) rfl) (pa_cons (pe_fldK K (pv 0) rfl) (pa_cons (pe_fldK K (pv 0) rfl) (pa_cons (pe_fldK K (pv 0) rfl) pa_nil))))))
  (pss_cons (ps_asg (pe_tup (pa_cons (pe_fldK K (pv 0) rfl) (pa_cons (pe_fldK K (pv 0) rfl) (pa_cons (pe_callTy (call_lstK K) (by rfl) T.b_list (by decide +kernel) (pa_cons (pe_fldK K (pv 0) rfl) pa_nil)) pa_nil)))) (pg_tupK K rfl (pgs_cons (pg_fldK K (pv 1)) (pgs_cons (pg_fldK K (pv 1)) (pgs_cons (pg_fldK K (pv 1)) pgs_nil)))))
  (pss_one (ps_ret (pv 1))))), ?_⟩
  refine ⟨_, rfl, x, T.c_NewLine, dx, _, _, rfl, hx, T.cl_NewLine, T.na_NewLine_number, rfl, ?_⟩
  refine ⟨_, rfl, x, T.c_NewLine, dx, _, _, rfl, hx, T.cl_NewLine, T.na_NewLine_label, rfl, ?_⟩
  refine ⟨_, rfl, x, T.c_NewLine, dx, _, _, rfl, hx, T.cl_NewLine, T.na_NewLine_start, rfl, ?_⟩
  refine ⟨_, rfl, x, T.c_NewLine, dx, _, _, rfl, hx, T.cl_NewLine, T.na_NewLine_source, rfl, ?_⟩
  refine fun y dy ny ndy nd2 => ⟨y, dy, n.number, n.label, n.start, n.source, rfl, upd_same, fun u0 H1 nu0 hy1 hu0 k1 f1 => ⟨rfl, ?_⟩⟩
  have nxy : x ≠ y := ne_of_none hx ny
  have nxd : x ≠ dy := ne_of_none hx ndy
  have s1 : Same H H1 := fun b u e => k1 b u (by rw [upd_ne (ne_of_none e ny), upd_ne (ne_of_none e ndy)]; exact e) (ne_of_none e ny)
  have hx1 := s1 _ _ hx
  refine ⟨_, rfl, x, T.c_NewLine, dx, _, _, rfl, hx1, T.cl_NewLine, T.na_NewLine_moves, rfl, ?_⟩
  refine ⟨_, rfl, x, T.c_NewLine, dx, _, _, rfl, hx1, T.cl_NewLine, T.na_NewLine_tie, rfl, ?_⟩
  refine ⟨_, rfl, x, T.c_NewLine, dx, _, _, rfl, hx1, T.cl_NewLine, T.na_NewLine_typed, rfl, t0, _, rfl, .inl (SqL.of (s1 _ _ ht0)), fun u nu => ?_⟩
  refine ⟨line_of (by show 3 ≤ 100000; decide), fun t nt => ?_⟩
  have nyt : y ≠ t := ne_of_none (show upd H1 u _ y = _ by rw [upd_ne (ne_of_none hy1 nu)]; exact hy1) nt
  have nyu : y ≠ u := ne_of_none hy1 nu
  have nut : u ≠ t := fun z => by rw [← z, upd_same] at nt; cases nt
  refine ⟨t, _, rfl, .inl (.inl upd_same), rfl, ?_⟩
  refine ⟨_, _, rfl, _, rfl, y, T.c_NewLine, dy, _, rfl, by rw [upd_ne nyt, upd_ne nyu]; exact hy1, T.cl_NewLine, T.na_NewLine_moves, of_decide_eq_true rfl, ?_⟩
  refine ⟨_, _, rfl, _, rfl, y, T.c_NewLine, dy, _, rfl, upd_same, T.cl_NewLine, T.na_NewLine_tie, of_decide_eq_true rfl, ?_⟩
  refine ⟨_, _, rfl, _, rfl, y, T.c_NewLine, dy, _, rfl, upd_same, T.cl_NewLine, T.na_NewLine_typed, of_decide_eq_true rfl, ?_⟩
  refine ⟨rfl, _, rfl, ?_⟩
  refine q y u _ (fun b o e => ?_) ny (s1.free nu) ⟨dy, upd_same⟩ (by rw [upd_ne nyu.symm, upd_ne nyu.symm, upd_ne nyu.symm, upd_ne nut]; exact upd_same)
  have n1 : b ≠ y := ne_of_none e ny
  have e1 := s1 _ _ e
  have n2 : b ≠ u := ne_of_none e1 nu
  have n3 : b ≠ t := ne_of_none (show upd H1 u _ b = _ by rw [upd_ne n2]; exact e1) nt
  rw [upd_ne n1, upd_ne n1, upd_ne n1, upd_ne n3, upd_ne n2]; exact e1
theorem ok_Ledgers_twin (T : Tx K mg) : FnOk P w K mg base CX0 4 T.Ledgers_twin.a T.Ledgers_twin.fd ["self"] (spLTwin (c3 T)) := by
  have G_Ledgers_init := ok_Ledgers_init (P := P) (w := w) (base := base) T
  have G_OldLine_twin := ok_OldLine_twin (P := P) (w := w) (base := base) T
  have G_NewLine_twin := ok_NewLine_twin (P := P) (w := w) (base := base) T
  refine T.Ledgers_twin.F.ok sc_Ledgers_twin (fun vs H Q E h => by obtain ⟨a, S, L, B, rfl, _⟩ := h; rfl) (fun cdv A outer s H vs Q E hr h => ?_)
  obtain ⟨a, S, L, B, rfl, ⟨da, l1, l2, l3, d, os, ns, p⟩, hB, q⟩ := h
  refine ⟨_, (pss_cons (ps_set (i := 1) sc_Ledgers_twin.nd rfl (Or.inl rfl) (pe_make0 T.mk_Ledgers G_Ledgers_init (hr.mono (by first | decide | omega)) rfl T.g_Ledgers T.Ledgers_init.b .nil pass0))
  (pss_cons (ps_fldK K (pv 1) (pe_lc (own := [("line", 2)]) (g := (gName 2)) (tt := tYes) rfl sc_Ledgers_twin.nd (pi_listK K (pe_fldK K (pv 0) rfl)) (blkOk_by (N := ["self", "other", "line"]) (sc := defScope s_Ledgers_twin) (by decide +kernel)) (fun _ _ _ _ _ => pg_name (i := 2) sc_Ledgers_twin.nd rfl (Or.inl rfl)) (fun _ _ _ _ _ => pts_nil) (fun _ _ _ _ _ => (pe_meth0 (pv 2) T.cl_OldLine T.OldLine_twin.m G_OldLine_twin (hr.mono (by first | decide | omega)) T.OldLine_twin.b .nil pass0))) rfl)
  (pss_cons (ps_fldK K (pv 1) (pe_lc (own := [("line", 2)]) (g := (gName 2)) (tt := tYes) rfl sc_Ledgers_twin.nd (pi_listK K (pe_fldK K (pv 0) rfl)) (blkOk_by (N := ["self", "other", "line"]) (sc := defScope s_Ledgers_twin) (by decide +kernel)) (fun _ _ _ _ _ => pg_name (i := 2) sc_Ledgers_twin.nd rfl (Or.inl rfl)) (fun _ _ _ _ _ => pts_nil) (fun _ _ _ _ _ => (pe_meth0 (pv 2) T.cl_NewLine T.NewLine_twin.m G_NewLine_twin (hr.mono (by first | decide | omega)) T.NewLine_twin.b .nil pass0))) rfl)
  (pss_cons (ps_asg (pe_tup (pa_cons (pe_fldK K (pv 0) rfl) (pa_cons (pe_callTy (call_lstK K) (by rfl) T.b_list (by decide +kernel) (pa_cons (pe_fldK K (pv 0) rfl) pa_nil)) (pa_cons (pe_callTy call_dictD (by rfl) T.b_dict (by decide +kernel) (pa_cons (pe_fldK K (pv 0) rfl) pa_nil)) pa_nil)))) (pg_tupK K rfl (pgs_cons (pg_fldK K (pv 1)) (pgs_cons (pg_fldK K (pv 1)) (pgs_cons (pg_fldK K (pv 1)) pgs_nil)))))
  (pss_one (ps_ret (pv 1))))))), ?_⟩
  have lo := p.elen
  have ln := p.llen
  have wl := p.wf.later_len
  have we := p.wf.sz
  refine fun b db nb ndb nd2 => ⟨b, db, fun x => H x = none, rfl, upd_same, fun x hx => (updN (updN hx).2).2, nb, fun H1 ⟨db1, m1, m2, m3, m4, os0, ns0, p0⟩ k1 => ⟨rfl, ?_⟩⟩
  have s1 : Same H H1 := fun y o e => k1.keep _ _ (by rw [upd_ne (ne_of_none e nb), upd_ne (ne_of_none e ndb)]; exact e) fun z => by rw [e] at z; cases z
  have hb1 := p0.ob
  dsimp only [gName_app, tAsg_app, tSeq_app]
  rw [sFld_app]
  refine lcGen (l := l1) (xs := os.map fun x => V.ref x.1) (fun Q hq => ⟨_, rfl, a, T.c_Ledgers, da, _, _, rfl, s1 _ _ p.ob, T.cl_Ledgers, T.na_Ledgers_elder, rfl, hq⟩) (SqL.of (s1 _ _ p.e)) (by simp; omega) (fun x => rfl) fun D1 nD1 => ?_
  refine ⟨fun ys H' => ∃ zs : List Addr, ys = zs.map V.ref ∧ ∀ (i : Nat) z, zs[i]? = some z → H z = none ∧ z ≠ D1 ∧ z ≠ b ∧ ∃ x dz, os[i]? = some x ∧ H' z = some (.ins T.c_OldLine dz (oF ((i : Int) + 1) x.2)), ⟨[], rfl, fun i z hz => by simp at hz⟩, ?_, ?_, ?_⟩
  · rintro ys H' o s ⟨zs, rfl, h⟩
    refine ⟨zs, rfl, fun i z hz => ?_⟩
    obtain ⟨h1, h2, h3, x, dz, h4, h5⟩ := h i z hz
    exact ⟨h1, h2, h3, x, dz, h4, by rw [upd_ne h2]; exact h5⟩
  · rintro j v ys H' hj hlen s hD ⟨zs, rfl, h⟩ R hR
    rw [List.getElem?_map] at hj
    obtain ⟨x, hx, rfl⟩ := Option.map_eq_some_iff.mp hj
    obtain ⟨dx, hdx⟩ := p.po j x hx
    refine ⟨_, rfl, x.1, dx, _, rfl, s _ _ (s1 _ _ hdx), rfl, x.1, dx, _, x.2, rfl, s _ _ (s1 _ _ hdx), fun y H2 s2 ny ⟨dy, hy⟩ => hR _ _ s2 ?_⟩
    refine ⟨zs ++ [y], by rw [List.map_append]; rfl, fun i z hz => ?_⟩
    rcases get_snoc hz with hz | ⟨rfl, rfl⟩
    · obtain ⟨h1, h2, h3, x', dz, h4, h5⟩ := h i z hz
      exact ⟨h1, h2, h3, x', dz, h4, s2 _ _ h5⟩
    · have e : zs.length = j := by rw [← hlen, List.length_map]
      rw [e]
      exact ⟨s1.free (s.free ny), fun z => hD (by rw [← z]; exact ny), (fun z => by rw [z, s _ _ hb1] at ny; cases ny), x, dy, hx, hy⟩
  rintro ys H2 hlen s2 hD1 ⟨zs, rfl, hzs⟩
  rw [List.length_map, List.length_map] at hlen
  have hb2 := s2 _ _ hb1
  refine ⟨_, rfl, b, T.c_Ledgers, db1, _, rfl, hb2, T.cl_Ledgers, T.na_Ledgers_elder, of_decide_eq_true rfl, ?_⟩
  have nHb : ∀ {y o}, H y = some o → y ≠ b := fun e => ne_of_none e nb
  have s12 : Same H H2 := s1.trans s2
  have up2 : ∀ {o}, Same H (upd H2 b o) := fun y u e => by rw [upd_ne (nHb e)]; exact s12 _ _ e
  dsimp only [gName_app, tAsg_app, tSeq_app]
  rw [sFld_app]
  refine lcGen (l := l2) (xs := ns.map fun x => V.ref x.1) (fun Q hq => ⟨_, rfl, a, T.c_Ledgers, da, _, _, rfl, up2 _ _ p.ob, T.cl_Ledgers, T.na_Ledgers_later, rfl, hq⟩) (SqL.of (up2 _ _ p.n)) (by simp; omega) (fun x => rfl) fun D2 nD2 => ?_
  have nD2b : D2 ≠ b := fun z => by rw [z, upd_same] at nD2; cases nD2
  have nD2H : H D2 = none := up2.free nD2
  refine ⟨fun ys H' => ∃ zs : NS, ys = zs.map (fun x => V.ref x.1) ∧ zs.map (·.2.2) = (ns.take zs.length).map (·.2.2) ∧ (zs.map (·.2.1)).Nodup ∧ ∀ x ∈ zs, H x.1 = none ∧ x.1 ≠ D2 ∧ x.1 ≠ b ∧ H x.2.1 = none ∧ x.2.1 ≠ D2 ∧ x.2.1 ≠ b ∧ x.2.1 ≠ D1 ∧ (∃ dx, H' x.1 = some (.ins T.c_NewLine dx (nF x.2.2 x.2.1))) ∧ H' x.2.1 = some (.lst (x.2.2.typed.map V.str)), ⟨[], rfl, rfl, List.nodup_nil, fun x hx => absurd hx List.not_mem_nil⟩, ?_, ?_, ?_⟩
  · rintro ys H' o s ⟨zs, rfl, e, nd, h⟩
    refine ⟨zs, rfl, e, nd, fun x hx => ?_⟩
    obtain ⟨h1, h2, h3, h4, h5, h6, h7, ⟨dx, h8⟩, h9⟩ := h x hx
    exact ⟨h1, h2, h3, h4, h5, h6, h7, ⟨dx, by rw [upd_ne h2]; exact h8⟩, by rw [upd_ne h5]; exact h9⟩
  · rintro j v ys H' hj hlen2 s hD ⟨zs, rfl, e, nd, h⟩ R hR
    rw [List.getElem?_map] at hj
    obtain ⟨x, hx, rfl⟩ := Option.map_eq_some_iff.mp hj
    obtain ⟨⟨dx, hdx⟩, htx⟩ := p.qo x (List.mem_of_getElem? hx)
    have sH : Same H H' := up2.trans s
    refine ⟨_, rfl, x.1, dx, _, rfl, sH _ _ hdx, rfl, x.1, dx, x.2.1, x.2.2, rfl, sH _ _ hdx, sH _ _ htx, fun y u H3 s3 ny nu ⟨dy, hy⟩ hu => hR _ _ s3 ?_⟩
    have ej : zs.length = j := by rw [← hlen2, List.length_map]
    have hb' : H' b ≠ none := by rw [s _ _ upd_same]; simp
    have hD1' : H' D1 ≠ none := by
      have n1 : D1 ≠ b := fun z => by rw [z, hb1] at nD1; cases nD1
      rw [s _ _ (show upd H2 b _ D1 = _ by rw [upd_ne n1]; exact hD1)]; simp
    refine ⟨zs ++ [(y, u, x.2.2)], by rw [List.map_append]; rfl, ?_, ?_, fun z hz => ?_⟩
    · rw [List.length_append, List.length_singleton, List.take_add_one, List.map_append, List.map_append, e, ej, hx]; rfl
    · rw [List.map_append, List.nodup_append]
      refine ⟨nd, by simp, fun c hc c' hc' => ?_⟩
      simp only [List.map_cons, List.map_nil, List.mem_singleton] at hc'
      subst hc'
      obtain ⟨x', hx', rfl⟩ := List.mem_map.mp hc
      intro z
      have := (h x' hx').2.2.2.2.2.2.2.2
      rw [z, nu] at this; cases this
    · rcases List.mem_append.mp hz with hz | hz
      · obtain ⟨h1, h2, h3, h4, h5, h6, h7, ⟨dx', h8⟩, h9⟩ := h z hz
        exact ⟨h1, h2, h3, h4, h5, h6, h7, ⟨dx', s3 _ _ h8⟩, s3 _ _ h9⟩
      · rw [List.mem_singleton.mp hz]
        exact ⟨sH.free ny, fun z => hD (by rw [← z]; exact ny), fun z => hb' (by rw [← z]; exact ny), sH.free nu, fun z => hD (by rw [← z]; exact nu), fun z => hb' (by rw [← z]; exact nu), fun z => hD1' (by rw [← z]; exact nu), ⟨dy, hy⟩, hu⟩
  rintro ys H3 hlen2 s3 hD2 ⟨qs, rfl, eqs, ndq, hqs⟩
  rw [List.length_map, List.length_map] at hlen2
  have hb3 := s3 _ _ upd_same
  refine ⟨_, rfl, b, T.c_Ledgers, db1, _, rfl, hb3, T.cl_Ledgers, T.na_Ledgers_later, of_decide_eq_true rfl, ?_⟩
  have s13 : Same H H3 := up2.trans s3
  have up3 : ∀ {o}, Same H (upd H3 b o) := fun y u e => by rw [upd_ne (nHb e)]; exact s13 _ _ e
  refine ⟨_, rfl, a, T.c_Ledgers, da, _, _, rfl, up3 _ _ p.ob, T.cl_Ledgers, T.na_Ledgers_ever, rfl, ?_⟩
  refine ⟨_, rfl, a, T.c_Ledgers, da, _, _, rfl, up3 _ _ p.ob, T.cl_Ledgers, T.na_Ledgers_fresh, rfl, l3, _, rfl, .inl (SqL.of (up3 _ _ p.f)), fun f nf => ?_⟩
  have nfH : H f = none := up3.free nf
  have nfb : f ≠ b := fun z => by rw [z, upd_same] at nf; cases nf
  have s4 : ∀ {o u}, Same H (upd (upd H3 b o) f u) := fun y v e => by rw [upd_ne (ne_of_none e nfH)]; exact up3 _ _ e
  obtain ⟨tps, tl1, hd1, htp⟩ := p.ah
  refine ⟨_, rfl, a, T.c_Ledgers, da, _, _, rfl, s4 _ _ p.ob, T.cl_Ledgers, T.na_Ledgers_ahead, rfl, d, _, rfl, .inl (s4 _ _ hd1), fun g ng => ?_⟩
  have ngH : H g = none := s4.free ng
  refine ⟨line_of (by show 3 ≤ 100000; decide), fun t nt => ?_⟩
  have ng3 := updN ng
  have nf3 := (updN nf).2
  have nt3 := updN nt
  have nt4 := updN nt3.2
  have nbf : b ≠ f := nfb.symm
  have nbg : b ≠ g := fun z => (updN ng3.2).1 z.symm
  have nbt : b ≠ t := fun z => (updN nt4.2).1 z.symm
  have g3 : H3 g = none := (updN ng3.2).2
  have t3 : H3 t = none := (updN nt4.2).2
  refine ⟨t, _, rfl, .inl (.inl upd_same), rfl, ?_⟩
  refine ⟨_, _, rfl, _, rfl, b, T.c_Ledgers, db1, _, rfl, by rw [upd_ne nbt, upd_ne nbg, upd_ne nbf]; exact upd_same, T.cl_Ledgers, T.na_Ledgers_ever, of_decide_eq_true rfl, ?_⟩
  refine ⟨_, _, rfl, _, rfl, b, T.c_Ledgers, db1, _, rfl, upd_same, T.cl_Ledgers, T.na_Ledgers_fresh, of_decide_eq_true rfl, ?_⟩
  refine ⟨_, _, rfl, _, rfl, b, T.c_Ledgers, db1, _, rfl, upd_same, T.cl_Ledgers, T.na_Ledgers_ahead, of_decide_eq_true rfl, ?_⟩
  refine ⟨rfl, _, rfl, ?_⟩
  rw [upd_upd, upd_upd]
  have kf : ∀ {x o}, H3 x = some o → x ≠ b → ∀ {i1 i2 F G Tt}, upd (upd (upd (upd (upd H3 b i1) f F) g G) t Tt) b i2 x = some o := fun e n _ _ _ _ _ => by
    rw [upd_ne n, upd_ne (ne_of_none e t3), upd_ne (ne_of_none e g3), upd_ne (ne_of_none e nf3), upd_ne n]; exact e
  have sF : ∀ {i1 i2 F G Tt}, Same H (upd (upd (upd (upd (upd H3 b i1) f F) g G) t Tt) b i2) := fun x o e => kf (s13 _ _ e) (nHb e)
  have nfg : f ≠ g := ng3.1.symm
  have nft : f ≠ t := nt4.1.symm
  have ngt : g ≠ t := nt3.1.symm
  have nD1b : D1 ≠ b := fun z => by rw [z, hb1] at nD1; cases nD1
  have hD13 : H3 D1 = some _ := s3 _ _ (show upd H2 b _ D1 = _ by rw [upd_ne nD1b]; exact hD1)
  have n12 : D1 ≠ D2 := fun z => by rw [← z, upd_ne nD1b, hD1] at nD2; cases nD2
  have z1 : (zs.zip (os.map (·.2))).map (·.2) = os.map (·.2) := List.map_snd_zip (by rw [List.length_map]; omega)
  have z2 : (zs.zip (os.map (·.2))).map (fun x => V.ref x.1) = zs.map V.ref := by
    have e : (fun x : Addr × OL => V.ref x.1) = V.ref ∘ Prod.fst := rfl
    rw [e, ← List.map_map, List.map_fst_zip (by rw [List.length_map]; omega)]
  have zg : ∀ (j : Nat) x, (zs.zip (os.map (·.2)))[j]? = some x → zs[j]? = some x.1 ∧ ∃ y, os[j]? = some y ∧ y.2 = x.2 := fun j x hx => by
    rw [List.getElem?_zip_eq_some] at hx
    obtain ⟨h1, h2⟩ := hx
    rw [List.getElem?_map] at h2
    obtain ⟨y, h3, h4⟩ := Option.map_eq_some_iff.mp h2
    exact ⟨h1, y, h3, h4⟩
  refine q b _ sF nb ⟨db1, D1, D2, f, g, zs.zip (os.map (·.2)), qs, ⟨upd_same, by rw [z1]; exact p.el, ?_, by rw [z2]; exact kf hD13 nD1b, kf hD2 nD2b, by rw [upd_ne nfb, upd_ne nft, upd_ne nfg]; exact upd_same, ⟨tps, tl1, by rw [upd_ne nbg.symm, upd_ne ngt]; exact upd_same, fun i x t' e1 e2 => sF _ _ (htp i x t' e1 e2)⟩, ?_, ?_, ?_, ⟨nb, s1.free nD1, nD2H, nfH, ngH⟩, ?_, ?_, fun x hx => sF.free hx, p.wf⟩⟩
  · rw [eqs, hlen2, List.take_length]; exact p.la
  · intro j x hx
    obtain ⟨h1, y, h2, h3⟩ := zg j x hx
    obtain ⟨_, e2, e3, y', dz, h4, h5⟩ := hzs j x.1 h1
    rw [h2] at h4; cases h4
    rw [h3] at h5
    exact ⟨dz, kf (s3 _ _ (show upd H2 b _ x.1 = _ by rw [upd_ne e3]; exact h5)) e3⟩
  · intro x hx
    obtain ⟨h1, h2, h3, h4, h5, h6, h7, ⟨dx, h8⟩, h9⟩ := hqs x hx
    exact ⟨⟨dx, kf h8 h3⟩, kf h9 h6⟩
  · have nDf : ∀ {x o}, H3 x = some o → x ≠ f := fun e => ne_of_none e nf3
    simp only [List.nodup_cons, List.mem_cons, List.mem_map, not_or, not_exists, not_and]
    exact ⟨⟨n12, nDf hD13, fun x hx z => (hqs x hx).2.2.2.2.2.2.1 z⟩, ⟨nDf hD2, fun x hx z => (hqs x hx).2.2.2.2.1 z⟩, fun x hx z => nDf (hqs x hx).2.2.2.2.2.2.2.2 z, ndq⟩
  · intro x hx
    obtain ⟨j, hj⟩ := List.mem_iff_getElem?.mp hx
    exact (hzs j x.1 (zg j x hj).1).1
  · intro x hx
    exact ⟨(hqs x hx).1, (hqs x hx).2.2.2.1⟩
end
end Y

/-! # the years: what stands in the heap -/
namespace Y
open PySem L2 M
/-- years at one moment -/
structure YS where
  sc : List PyData
  led : Led
  story : List Deed
  wrong : List PyData
def YS.init (ds : List PyData) : YS := ⟨ds, Led.init, [], []⟩
def YS.ws (y : YS) : List (List Str) := y.sc.map wordsOf
def YS.play (y : YS) (e : Deed) : YS := ⟨y.sc, playM y.ws y.led e, y.story ++ [e], if isRun e = true then (wrongsM (playM y.ws y.led e)).map (wD y.story.length) else y.wrong⟩
def retD (ws : List (List Str)) (L : Led) : Deed → PyData
  | .add _ _ => .int (L.elder.length + 1)
  | .own _ => .int (L.ever + 1)
  | .run => runD ws L
  | _ => .none
def YS.tell (y : YS) (e : Deed) : PyData := retD y.ws y.led e
def YS.tells : YS → List Deed → List PyData
  | _, [] => []
  | y, e :: es => y.tell e :: (y.play e).tells es
def YS.all (y : YS) (es : List Deed) : YS := es.foldl YS.play y
theorem YS.all_sc (y : YS) : ∀ es : List Deed, (y.all es).sc = y.sc := fun es => by
  induction es generalizing y with
  | nil => rfl
  | cons e es ih => exact ih (y.play e)
theorem YS.all_led (y : YS) : ∀ es : List Deed, (y.all es).led = playAll y.ws y.led es := fun es => by
  induction es generalizing y with
  | nil => rfl
  | cons e es ih => exact ih (y.play e)
theorem YS.all_story (y : YS) : ∀ es : List Deed, (y.all es).story = y.story ++ es := fun es => by
  induction es generalizing y with
  | nil => exact (List.append_nil _).symm
  | cons e es ih => rw [show y.all (e :: es) = (y.play e).all es from rfl, ih (y.play e)]; exact List.append_assoc _ [e] es
theorem YS.all_snoc (y : YS) {es : List Deed} {i : Nat} {e : Deed} (h : es[i]? = some e) : y.all (es.take (i + 1)) = (y.all (es.take i)).play e := by
  rw [List.take_add_one, h]
  show (es.take i ++ [e]).foldl YS.play y = _
  rw [List.foldl_append]; rfl
theorem YS.tells_app (y : YS) : ∀ (es : List Deed) (e : Deed), y.tells (es ++ [e]) = y.tells es ++ [(y.all es).tell e] := fun es => by
  induction es generalizing y with
  | nil => intro e; rfl
  | cons d es ih => intro e; exact congrArg (y.tell d :: ·) (ih (y.play d) e)
theorem YS.tells_snoc (y : YS) {es : List Deed} {i : Nat} {e : Deed} (h : es[i]? = some e) : y.tells (es.take (i + 1)) = y.tells (es.take i) ++ [(y.all (es.take i)).tell e] := by
  rw [List.take_add_one, h]
  exact y.tells_app _ e
theorem YS.tells_len (y : YS) : ∀ es : List Deed, (y.tells es).length = es.length := fun es => by
  induction es generalizing y with
  | nil => rfl
  | cons e es ih => exact congrArg (· + 1) (ih (y.play e))
theorem imm_wD (i : Int) (l : List (Str × Int)) : immAll (l.map (wD i)) = true := imm_all fun d hd => by
  obtain ⟨z, _, rfl⟩ := List.mem_map.mp hd
  rfl
theorem imm_dDs (l : List Deed) : immAll (l.map dD) = true := imm_all fun d hd => by
  obtain ⟨z, _, rfl⟩ := List.mem_map.mp hd
  exact imm_dD z
/-! ### frozen parts -/
structure Fz (G H : Hp) : Prop where
  fro : Same G H
  tp : ∀ b o, H b = some o → ¬ NoTup o → G b = some o
/-- what stood there stands, but for two places, which hold no tuples -/
structure Nx (G H H' : Hp) (p q : Addr) : Prop where
  fz : Fz G H
  kp : ∀ b o, H b = some o → b ≠ p → b ≠ q → H' b = some o
  np : ∀ o, H' p = some o → NoTup o
  nq : ∀ o, H' q = some o → NoTup o
theorem Nx.tup {G H H' : Hp} {p q t : Addr} {o : HO} (n : Nx G H H' p q) (h : H' t = some o) (ht : ¬ NoTup o) : absF G H H' t = some o := by
  cases e : H t with
  | none => rw [absF_new e]; exact h
  | some u =>
    have n1 : t ≠ p := fun z => ht (n.np o (by rw [← z]; exact h))
    have n2 : t ≠ q := fun z => ht (n.nq o (by rw [← z]; exact h))
    have := n.kp t u e n1 n2
    rw [h] at this; cases this
    rw [absF_old e]; exact n.fz.tp t _ e ht
mutual
theorem Nx.imm {K : PySem.W.Frag} {G H H' : Hp} {p q : Addr} (n : Nx G H H' p q) : ∀ {d : PyData} {v : V}, imm d = true → Dp K H' v d → Dp K (absF G H H') v d
  | .none, _, _, h => by cases h; exact .non
  | .bool b, _, _, h => by cases h; exact .bl b
  | .int i, _, _, h => by cases h; exact .int i
  | .str s, _, _, h => by cases h; exact .str s
  | .list ds, _, i, _ => by simp [L2.imm] at i
  | .dict ds, _, i, _ => by simp [L2.imm] at i
  | .tuple ds, _, i, h => by
    cases h with
    | tup h1 h2 =>
      refine .tup ?_ (Nx.immAll n (by simpa [L2.imm] using i) h2)
      rcases h1 with (h1 | ⟨o, h1⟩) | h1
      · exact .inl (.inl (n.tup h1 fun z => z))
      · exact .inl (.inr ⟨o, n.tup h1 fun z => z⟩)
      · exact .inr h1
theorem Nx.immAll {K : PySem.W.Frag} {G H H' : Hp} {p q : Addr} (n : Nx G H H' p q) : ∀ {ds : List PyData} {vs : List V}, immAll ds = true → DpAll K H' vs ds → DpAll K (absF G H H') vs ds
  | [], _, _, h => by cases h; exact .nil
  | d :: ds, _, i, h => by
    simp only [L2.immAll, Bool.and_eq_true] at i
    cases h with
    | cons h1 h2 => exact .cons (Nx.imm n i.1 h1) (Nx.immAll n i.2 h2)
end
theorem Nx.sameG {G H H' : Hp} {p q : Addr} (n : Nx G H H' p q) : Same G (absF G H H') := absF_same n.fz.fro
theorem Nx.led {C : C3} {G H H' : Hp} {p q a : Addr} {S : Addr → Prop} {L : Led} {B : Nat} (n : Nx G H H' p q) (hs : ∀ x, S x → H x = none) (h : LedAt C S H' a L B) : LedAt C (fun _ => True) (absF G H H') a L B := by
  obtain ⟨da, l1, l2, l3, d, os, ns, P⟩ := h
  have e : ∀ {x}, S x → absF G H H' x = H' x := fun h => absF_new (hs _ h)
  obtain ⟨tps, t1, t2, t3⟩ := P.ah
  exact ⟨da, l1, l2, l3, d, os, ns, ⟨by rw [e P.sa.1]; exact P.ob, P.el, P.la, by rw [e P.sa.2.1]; exact P.e, by rw [e P.sa.2.2.1]; exact P.n, by rw [e P.sa.2.2.2.1]; exact P.f, ⟨tps, t1, by rw [e P.sa.2.2.2.2]; exact t2, fun i x t h1 h2 => n.tup (t3 i x t h1 h2) fun z => z⟩,
    fun j x hx => let ⟨dx, h1⟩ := P.po j x hx; ⟨dx, by rw [e (P.so x (List.mem_of_getElem? hx))]; exact h1⟩,
    fun x hx => let ⟨⟨dx, h1⟩, h2⟩ := P.qo x hx; ⟨⟨dx, by rw [e (P.sn x hx).1]; exact h1⟩, by rw [e (P.sn x hx).2]; exact h2⟩, P.ld, ⟨trivial, trivial, trivial, trivial, trivial⟩, fun _ _ => trivial, fun _ _ => ⟨trivial, trivial⟩, fun _ _ => trivial, P.wf⟩⟩
theorem Nx.newS {G H H' : Hp} {p q : Addr} {S S' : Addr → Prop} (hs : ∀ x, S x → H x = none) : Same (newS S S' H') (absF G H H') := fun b o e => by
  obtain ⟨h1, _, h3⟩ := newS_inv e
  rw [absF_new (hs b h1)]; exact h3
/-! ### years in the heap -/
structure LevAt (K : PySem.W.Frag) (C : C3) (cs : Addr) (G : Hp) (a1 a2 a3 a4 : Addr) (y : YS) : Prop where
  sc : ScrAt K cs G a1 y.sc
  row : Row y.sc
  led : LedAt C (fun _ => True) G a2 y.led y.story.length
  st : ∃ xs, G a3 = some (.lst xs) ∧ DpAll K G xs (y.story.map dD)
  ok : ∀ e ∈ y.story, okDeed e = true
  wr : ∃ xs, G a4 = some (.lst xs) ∧ DpAll K G xs y.wrong
  im : immAll y.wrong = true
theorem LevAt.mono {K : PySem.W.Frag} {C : C3} {cs : Addr} {G G' : Hp} {a1 a2 a3 a4 : Addr} {y : YS} (h : LevAt K C cs G a1 a2 a3 a4 y) (s : Same G G') : LevAt K C cs G' a1 a2 a3 a4 y := by
  obtain ⟨h1, h2, ⟨da, l1, l2, l3, d, os, ns, P⟩, ⟨xs, h4, h5⟩, h6, ⟨ys, h7, h8⟩, h9⟩ := h
  have P' := P.stay (H' := G') (fun b o e _ => s b o e) s.tups fun _ _ => trivial
  exact ⟨h1.same s, h2, ⟨_, _, _, _, _, _, _, P'⟩, ⟨xs, s _ _ h4, s.dpAll h5⟩, h6, ⟨ys, s _ _ h7, s.dpAll h8⟩, h9⟩
def PastAt (K : PySem.W.Frag) (C : C3) (cs : Addr) (G : Hp) (ts : List Addr) (past : List YS) : Prop := ts.length = past.length ∧ ∀ (i : Nat) t z, ts[i]? = some t → past[i]? = some z → ∃ a1 a2 a3 a4, G t = some (.tup [.ref a1, .ref a2, .ref a3, .ref a4]) ∧ LevAt K C cs G a1 a2 a3 a4 z
theorem PastAt.mono {K : PySem.W.Frag} {C : C3} {cs : Addr} {G G' : Hp} {ts : List Addr} {past : List YS} (h : PastAt K C cs G ts past) (s : Same G G') : PastAt K C cs G' ts past := ⟨h.1, fun i t z h1 h2 => by
  obtain ⟨a1, a2, a3, a4, h3, h4⟩ := h.2 i t z h1 h2
  exact ⟨a1, a2, a3, a4, s _ _ h3, h4.mono s⟩⟩
def yF (a1 a2 a3 a4 q : Addr) : List (Str × V) := [("plan", .ref a1), ("ledgers", .ref a2), ("story", .ref a3), ("wrong", .ref a4), ("past", .ref q)]
structure YrP (K : PySem.W.Frag) (C : C3) (cs cy : Addr) (G H : Hp) (p q : Addr) (y : YS) (past : List YS) (dx a1 a2 a3 a4 : Addr) (ts : List Addr) : Prop where
  ob : H p = some (.ins cy dx (yF a1 a2 a3 a4 q))
  pa : H q = some (.lst (ts.map V.ref))
  lev : LevAt K C cs G a1 a2 a3 a4 y
  past : PastAt K C cs G ts past
def YrAt (K : PySem.W.Frag) (C : C3) (cs cy : Addr) (G H : Hp) (p q : Addr) (y : YS) (past : List YS) : Prop := ∃ dx a1 a2 a3 a4 ts, YrP K C cs cy G H p q y past dx a1 a2 a3 a4 ts
theorem YrAt.mono {K : PySem.W.Frag} {C : C3} {cs cy : Addr} {G G' H H' : Hp} {p q : Addr} {y : YS} {past : List YS} (h : YrAt K C cs cy G H p q y past) (s : Same G G') (k : ∀ b ∈ [p, q], ∀ o, H b = some o → H' b = some o) : YrAt K C cs cy G' H' p q y past := by
  obtain ⟨dx, a1, a2, a3, a4, ts, P⟩ := h
  exact ⟨dx, a1, a2, a3, a4, ts, ⟨k _ (by simp) _ P.ob, k _ (by simp) _ P.pa, P.lev.mono s, P.past.mono s⟩⟩
end Y

/-! # the years: what they tell -/
namespace Y
open PySem L2 M
def spYLen (K : PySem.W.Frag) (C : C3) (cs cy : Addr) : Sp := fun vs H Q _ => ∃ (p q : Addr) (y : YS) (past : List YS), vs = [.ref p] ∧ YrAt K C cs cy H H p q y past ∧ Q (.int y.story.length) H
def spYRuns (K : PySem.W.Frag) (C : C3) (cs cy : Addr) : Sp := fun vs H Q _ => ∃ (p q : Addr) (y : YS) (past : List YS), vs = [.ref p] ∧ YrAt K C cs cy H H p q y past ∧ y.story.length ≤ 5000 ∧ ∀ H', Same H H' → Q (.int (y.story.filter isRun).length) H'
def spYScript (K : PySem.W.Frag) (C : C3) (cs cy : Addr) : Sp := fun vs H Q _ => ∃ (p q : Addr) (G : Hp) (y : YS) (past : List YS), vs = [.ref p] ∧ YrAt K C cs cy G H p q y past ∧ ∀ a, ScrAt K cs G a y.sc → Q (.ref a) H
def spYOld (K : PySem.W.Frag) (C : C3) (cs cy : Addr) : Sp := fun vs H Q _ => ∃ (p q : Addr) (y : YS) (past : List YS), vs = [.ref p] ∧ YrAt K C cs cy H H p q y past ∧ y.story.length ≤ 4990 ∧ ∀ e xs H', Same H H' → H e = none → H' e = some (.lst xs) → DpAll K H' xs (oRows y.led) → Q (.ref e) H'
def spYNew (K : PySem.W.Frag) (C : C3) (cs cy : Addr) : Sp := fun vs H Q _ => ∃ (p q : Addr) (y : YS) (past : List YS), vs = [.ref p] ∧ YrAt K C cs cy H H p q y past ∧ y.story.length ≤ 4990 ∧ ∀ e xs H', Same H H' → H e = none → H' e = some (.lst xs) → DpAll K H' xs (nRows y.led) → Q (.ref e) H'
def spYFaults (K : PySem.W.Frag) (C : C3) (cs cy : Addr) : Sp := fun vs H Q _ => ∃ (p q : Addr) (y : YS) (past : List YS), vs = [.ref p] ∧ YrAt K C cs cy H H p q y past ∧ ∀ l xs, H l = none → DpAll K H xs y.wrong → Q (.ref l) (upd H l (.lst xs))
def spYMade (K : PySem.W.Frag) (C : C3) (cs cy : Addr) : Sp := fun vs H Q _ => ∃ (p q : Addr) (n : Int) (y : YS) (past : List YS), vs = [.ref p, .int n] ∧ YrAt K C cs cy H H p q y past ∧ y.story.length ≤ 4990 ∧ inO y.led n ∧ ∀ H', Same H H' → Q (tv (madeNo y.led.later n)) H'
def spYRem (cy : Addr) : Sp := fun vs H Q _ => ∃ (p q dx a1 a2 a3 a4 : Addr) (us : List V), vs = [.ref p] ∧ H p = some (.ins cy dx (yF a1 a2 a3 a4 q)) ∧ H q = some (.lst us) ∧ us.length < 90000 ∧
  ∀ t, H t = none → Q .non (upd (upd H t (.tup [.ref a1, .ref a2, .ref a3, .ref a4])) q (.lst (us ++ [.ref t])))
theorem zip_filter_len {α β : Type} (f : β → Bool) : ∀ (xs : List α) (ys : List β), xs.length = ys.length → ((xs.zip ys).filter fun x => f x.2).length = (ys.filter f).length
  | [], [], _ => rfl
  | [], _ :: _, h => by simp at h
  | _ :: _, [], h => by simp at h
  | x :: xs, y :: ys, h => by
    have ih := zip_filter_len f xs ys (by simpa using h)
    rw [List.zip_cons_cons, List.filter_cons, List.filter_cons]
    by_cases c : f y = true
    · rw [if_pos c, if_pos c, List.length_cons, List.length_cons, ih]
    · rw [if_neg c, if_neg c]; exact ih
section
variable {P : Program} {w : World} {K : PySem.W.Frag} {mg : Str → Option Value} {base : Heap}
theorem ok_Years_len (T : Tx K mg) : FnOk P w K mg base CX0 1 T.Years_len.a T.Years_len.fd ["self"] (spYLen K (c3 T) T.c_Script T.c_Years) := by
  refine T.Years_len.F.ok sc_Years_len (fun vs H Q E h => by obtain ⟨p, q, y, past, rfl, _⟩ := h; rfl) (fun cdv A outer s H vs Q E hr h => ?_)
  obtain ⟨p, q, y, past, rfl, ⟨dx, a1, a2, a3, a4, ts, Y⟩, k⟩ := h
  refine ⟨_, (pss_one (ps_ret (pe_callB (call_lenK K) (by rfl) T.b_len (by decide +kernel) (pa_cons (pe_fldK K (pv 0) rfl) pa_nil)))), ?_⟩
  obtain ⟨xs, h1, h2⟩ := Y.lev.st
  have hl := h2.length
  rw [List.length_map] at hl
  refine ⟨_, rfl, p, T.c_Years, dx, _, _, rfl, Y.ob, T.cl_Years, T.na_Years_story, rfl, _, _, rfl, .inl ⟨_, SqL.of h1, rfl⟩, ?_⟩
  rw [hl]; exact k
theorem ok_Years_script (T : Tx K mg) : FnOk P w K mg base CX0 1 T.Years_script.a T.Years_script.fd ["self"] (spYScript K (c3 T) T.c_Script T.c_Years) := by
  refine T.Years_script.F.ok sc_Years_script (fun vs H Q E h => by obtain ⟨p, q, G, y, past, rfl, _⟩ := h; rfl) (fun cdv A outer s H vs Q E hr h => ?_)
  obtain ⟨p, q, G, y, past, rfl, ⟨dx, a1, a2, a3, a4, ts, Y⟩, k⟩ := h
  refine ⟨_, (pss_one (ps_ret (pe_fldK K (pv 0) rfl))), ?_⟩
  exact ⟨_, rfl, p, T.c_Years, dx, _, _, rfl, Y.ob, T.cl_Years, T.na_Years_plan, rfl, k a1 Y.lev.sc⟩
theorem ok_Years_faults (T : Tx K mg) : FnOk P w K mg base CX0 1 T.Years_faults.a T.Years_faults.fd ["self"] (spYFaults K (c3 T) T.c_Script T.c_Years) := by
  refine T.Years_faults.F.ok sc_Years_faults (fun vs H Q E h => by obtain ⟨p, q, y, past, rfl, _⟩ := h; rfl) (fun cdv A outer s H vs Q E hr h => ?_)
  obtain ⟨p, q, y, past, rfl, ⟨dx, a1, a2, a3, a4, ts, Y⟩, k⟩ := h
  refine ⟨_, (pss_one (ps_ret (pe_callTy (call_lstK K) (by rfl) T.b_list (by decide +kernel) (pa_cons (pe_fldK K (pv 0) rfl) pa_nil)))), ?_⟩
  obtain ⟨xs, h1, h2⟩ := Y.lev.wr
  exact ⟨_, rfl, p, T.c_Years, dx, _, _, rfl, Y.ob, T.cl_Years, T.na_Years_wrong, rfl, a4, _, rfl, .inl (SqL.of h1), fun l nl => k l xs nl h2⟩
theorem ok_Years_old (T : Tx K mg) : FnOk P w K mg base CX0 4 T.Years_old.a T.Years_old.fd ["self"] (spYOld K (c3 T) T.c_Script T.c_Years) := by
  have G_Ledgers_rows := ok_rows (P := P) (w := w) (base := base) T
  refine T.Years_old.F.ok sc_Years_old (fun vs H Q E h => by obtain ⟨p, q, y, past, rfl, _⟩ := h; rfl) (fun cdv A outer s H vs Q E hr h => ?_)
  obtain ⟨p, q, y, past, rfl, ⟨dx, a1, a2, a3, a4, ts, Y⟩, hz, k⟩ := h
  refine ⟨_, (pss_one (ps_ret (pe_ix (ix_tupK K) (pe_meth0 (pe_fldK K (pv 0) rfl) T.cl_Ledgers T.Ledgers_rows.m G_Ledgers_rows (hr.mono (by first | decide | omega)) T.Ledgers_rows.b .nil pass0) pe_int (fun _ _ => rfl)))), ?_⟩
  obtain ⟨da, l1, l2, l3, d, os, ns, L⟩ := id Y.lev.led
  refine ⟨_, rfl, p, T.c_Years, dx, _, _, rfl, Y.ob, T.cl_Years, T.na_Years_ledgers, rfl, a2, da, _, rfl, L.ob, rfl, a2, _, y.led, _, rfl, Y.lev.led, by omega, fun t e f xs ys H' s nt ne nf hef ht he hf hxs hys => ?_⟩
  exact ⟨t, _, 0, .ref e, rfl, rfl, .inl (.inl ht), rfl, k e xs H' s ne he hxs⟩
theorem ok_Years_new (T : Tx K mg) : FnOk P w K mg base CX0 4 T.Years_new.a T.Years_new.fd ["self"] (spYNew K (c3 T) T.c_Script T.c_Years) := by
  have G_Ledgers_rows := ok_rows (P := P) (w := w) (base := base) T
  refine T.Years_new.F.ok sc_Years_new (fun vs H Q E h => by obtain ⟨p, q, y, past, rfl, _⟩ := h; rfl) (fun cdv A outer s H vs Q E hr h => ?_)
  obtain ⟨p, q, y, past, rfl, ⟨dx, a1, a2, a3, a4, ts, Y⟩, hz, k⟩ := h
  refine ⟨_, (pss_one (ps_ret (pe_ix (ix_tupK K) (pe_meth0 (pe_fldK K (pv 0) rfl) T.cl_Ledgers T.Ledgers_rows.m G_Ledgers_rows (hr.mono (by first | decide | omega)) T.Ledgers_rows.b .nil pass0) pe_int (fun _ _ => rfl)))), ?_⟩
  obtain ⟨da, l1, l2, l3, d, os, ns, L⟩ := id Y.lev.led
  refine ⟨_, rfl, p, T.c_Years, dx, _, _, rfl, Y.ob, T.cl_Years, T.na_Years_ledgers, rfl, a2, da, _, rfl, L.ob, rfl, a2, _, y.led, _, rfl, Y.lev.led, by omega, fun t e f xs ys H' s nt ne nf hef ht he hf hxs hys => ?_⟩
  exact ⟨t, _, 1, .ref f, rfl, rfl, .inl (.inl ht), rfl, k f ys H' s nf hf hys⟩
theorem ok_Years_runs (T : Tx K mg) : FnOk P w K mg base CX0 1 T.Years_runs.a T.Years_runs.fd ["self"] (spYRuns K (c3 T) T.c_Script T.c_Years) := by
  refine T.Years_runs.F.ok sc_Years_runs (fun vs H Q E h => by obtain ⟨p, q, y, past, rfl, _⟩ := h; rfl) (fun cdv A outer s H vs Q E hr h => ?_)
  obtain ⟨p, q, y, past, rfl, ⟨dx, a1, a2, a3, a4, ts, Y⟩, hz, k⟩ := h
  refine ⟨_, (pss_one (ps_ret (pe_callB (call_lenK K) (by rfl) T.b_len (by decide +kernel) (pa_cons (pe_lc (own := [("deed", 1)]) (g := (gName 1)) (tt := _) rfl sc_Years_runs.nd (pi_listK K (pe_fldK K (pv 0) rfl)) (blkOk_by (N := ["self", "deed"]) (sc := defScope s_Years_runs) (by decide +kernel)) (fun _ _ _ _ _ => pg_name (i := 1) sc_Years_runs.nd rfl (Or.inl rfl)) (fun _ _ _ _ _ => pts_one (pt_cmpR (op_eqDK K (hu65 hr)) (pv 1) (pe_tup (pa_cons pe_str pa_nil)) (nomark _))) (fun _ _ _ _ _ => (pv 1))) pa_nil)))), ?_⟩
  obtain ⟨xs, h1, h2⟩ := Y.lev.st
  have hl := h2.length
  rw [List.length_map] at hl
  unfold tRet tCB tCons
  refine lcFM (l := a3) (xs.zip y.story) (fun x => x.1) (fun x => x.1) (fun x => isRun x.2) (fun Q hq => ⟨_, rfl, p, T.c_Years, dx, _, _, rfl, Y.ob, T.cl_Years, T.na_Years_story, rfl, hq⟩) ?_ ?_ (fun x => rfl) ?_ ?_ ?_
  · rw [show (xs.zip y.story).map (fun x => x.1) = xs from List.map_fst_zip (by omega)]
    exact SqL.of h1
  · rw [List.length_zip]; omega
  · intro j x H' hj s R hR
    rw [List.getElem?_zip_eq_some] at hj
    obtain ⟨d, e1, e2⟩ := h2.get' hj.1
    rw [List.getElem?_map, hj.2] at e1
    cases e1
    refine ⟨_, rfl, line_of (by show 1 ≤ 100000; decide), fun t nt => ⟨dD x.2, .tuple [.str "run"], (Same.new nt).dp (s.dp e2), .tupOf upd_same (.one (.str _)), deed_shaped x.2, by decide +kernel, _, rfl, ?_⟩⟩
    rw [eqv_run]; exact hR _ (Same.new nt)
  · intro j x H' hj hf s R hR
    exact ⟨_, rfl, hR H' (Same.refl H')⟩
  intro D H' nD s hD
  refine ⟨_, _, rfl, .inl ⟨_, SqL.of hD, rfl⟩, ?_⟩
  rw [List.length_map, zip_filter_len isRun xs y.story (by omega)]
  exact k H' s
theorem ok_Years_made_of (T : Tx K mg) : FnOk P w K mg base CX0 4 T.Years_made_of.a T.Years_made_of.fd ["self", "number"] (spYMade K (c3 T) T.c_Script T.c_Years) := by
  have G_is_whole := ok_is_whole (P := P) (w := w) (base := base) T
  have G_Ledgers_old_line := ok_old_line (P := P) (w := w) (base := base) T
  have G_Ledgers_made_lines := ok_made_lines (P := P) (w := w) (base := base) T
  refine T.Years_made_of.F.ok sc_Years_made_of (fun vs H Q E h => by obtain ⟨p, q, n, y, past, rfl, _⟩ := h; rfl) (fun cdv A outer s H vs Q E hr h => ?_)
  obtain ⟨p, q, n, y, past, rfl, ⟨dx, a1, a2, a3, a4, ts, Y⟩, hz, hin, k⟩ := h
  refine ⟨_, (pss_cons (ps_if (PW.pt (pw_or (pt_not (pt_val (pe_call G_is_whole (hr.mono (by first | decide | omega)) rfl T.is_whole.g T.is_whole.F.kp T.is_whole.b .nil pass0 (pa_cons (pv 1) pa_nil)))) (pw_or1 (pt_cmpR op_isN (pe_meth (pe_fldK K (pv 0) rfl) T.cl_Ledgers T.Ledgers_old_line.m G_Ledgers_old_line (hr.mono (by first | decide | omega)) T.Ledgers_old_line.b .nil pass0 (pa_cons (pv 1) pa_nil)) pe_non (nomark _)))))
  (pss_one ps_never)
  pss_nil)
  (pss_cons (ps_set (i := 2) sc_Years_made_of.nd rfl (Or.inl rfl) (pe_dget1 (hu_of hr) (pe_meth0 (pe_fldK K (pv 0) rfl) T.cl_Ledgers T.Ledgers_made_lines.m G_Ledgers_made_lines (hr.mono (by first | decide | omega)) T.Ledgers_made_lines.b .nil pass0) (pv 1) ⟨by rfl, by rfl, by rfl, by rfl⟩))
  (pss_one (ps_ret (pe_ifExp (pt_cmpR op_isN (pv 2) pe_non (nomark _)) pe_non (pe_fldK K (pv 2) rfl)))))), ?_⟩
  obtain ⟨da, l1, l2, l3, d, os, ns, L⟩ := id Y.lev.led
  have hB : y.story.length ≤ 5000 := by omega
  have lo := L.elen
  refine ⟨_, rfl, .int n, "int", rfl, .base (.int _), by decide, _, rfl, iteF' rfl ?_⟩
  refine ⟨_, rfl, p, T.c_Years, dx, _, _, rfl, Y.ob, T.cl_Years, T.na_Years_ledgers, rfl, a2, da, _, rfl, L.ob, rfl, _, rfl, a2, da, l1, l2, l3, d, y.led.ever, n, _, rfl, L.ob, L.e, fun j v ej hv => ?_, fun hn => ?_⟩
  · rw [List.getElem?_map] at hv
    obtain ⟨x, hx, rfl⟩ := Option.map_eq_some_iff.mp hv
    refine ⟨rfl, _, rfl, iteF' rfl ?_⟩
    refine ⟨_, rfl, p, T.c_Years, dx, _, _, rfl, Y.ob, T.cl_Years, T.na_Years_ledgers, rfl, a2, da, _, rfl, L.ob, rfl, a2, _, y.led, _, da, l1, l2, l3, d, os, ns, rfl, L, hB, fun m H1 nm s1 hm => ?_⟩
    refine ⟨m, rfl, .inl ⟨_, .inl hm⟩, _, rfl, valV (madeKV ns) (Sum.inl n), .inl ⟨_, Sum.inl n, .inl hm, rfl, rfl⟩, ?_⟩
    have hv2 := madeKV_val n ns
    have em : madeNo y.led.later n = (ns.find? fun x => x.2.2.source == some n).map (·.2.2.number) := by
      unfold madeNo
      rw [L.la, List.find?_map, Option.map_map]; rfl
    rw [hv2]
    cases e : ns.find? fun x => x.2.2.source == some n with
    | none =>
      rw [em, e] at k
      exact ⟨_, rfl, rfl, _, rfl, iteT' rfl (k H1 s1)⟩
    | some z =>
      rw [em, e] at k
      obtain ⟨⟨dz, h1⟩, h2⟩ := L.qo z (List.mem_of_find?_eq_some e)
      exact ⟨_, rfl, rfl, _, rfl, iteF' rfl ⟨_, rfl, z.1, T.c_NewLine, dz, _, _, rfl, s1 _ _ h1, T.cl_NewLine, T.na_NewLine_number, rfl, k H1 s1⟩⟩
  · obtain ⟨h1, h2⟩ := hin
    rw [List.length_map] at hn
    exact absurd ⟨h1, by omega⟩ hn
/-- what an undo goes back to -/
theorem ok_Years_remember (T : Tx K mg) : FnOk P w K mg base CX0 1 T.Years_remember.a T.Years_remember.fd ["self"] (spYRem T.c_Years) := by
  refine T.Years_remember.F.ok sc_Years_remember (fun vs H Q E h => by obtain ⟨p, q, dx, a1, a2, a3, a4, us, rfl, _⟩ := h; rfl) (fun cdv A outer s H vs Q E hr h => ?_)
  obtain ⟨p, q, dx, a1, a2, a3, a4, us, rfl, hp, hq, hz, k⟩ := h
  refine ⟨_, (pss_one (ps_expr (pe_bmK2 K PySem.F.plainAttrs_list PySem.F.slot_list_append PySem.F.type_list_append mt_append (pe_fldK K (pv 0) rfl) (pa_cons (pe_tup (pa_cons (pe_fldK K (pv 0) rfl) (pa_cons (pe_fldK K (pv 0) rfl) (pa_cons (pe_fldK K (pv 0) rfl) (pa_cons (pe_fldK K (pv 0) rfl) pa_nil))))) pa_nil)))), ?_⟩
  refine ⟨_, rfl, p, T.c_Years, dx, _, _, rfl, hp, T.cl_Years, T.na_Years_past, rfl, .inl ⟨rfl, _, SqL.of hq⟩, ?_⟩
  refine ⟨_, rfl, p, T.c_Years, dx, _, _, rfl, hp, T.cl_Years, T.na_Years_plan, rfl, ?_⟩
  refine ⟨_, rfl, p, T.c_Years, dx, _, _, rfl, hp, T.cl_Years, T.na_Years_ledgers, rfl, ?_⟩
  refine ⟨_, rfl, p, T.c_Years, dx, _, _, rfl, hp, T.cl_Years, T.na_Years_story, rfl, ?_⟩
  refine ⟨_, rfl, p, T.c_Years, dx, _, _, rfl, hp, T.cl_Years, T.na_Years_wrong, rfl, ?_⟩
  refine ⟨line_of (by show 4 ≤ 100000; decide), fun t nt => ?_⟩
  have nqt : q ≠ t := ne_of_none hq nt
  exact ⟨q, _, .ref t, rfl, rfl, by rw [upd_ne nqt]; exact hq, line_lt (by omega), k t nt⟩
end
end Y

/-! # the years: change and undo -/
namespace Y
open PySem L2 M
def spYInit (K : PySem.W.Frag) (C : C3) (cs cy : Addr) : Sp := fun vs H Q _ => ∃ (p dx sc : Addr) (ds : List PyData), vs = [.ref p, .ref sc] ∧ H p = some (.ins cy dx []) ∧ ScrAt K cs H sc ds ∧ Row ds ∧
  ∀ q a2 a3 a4 H', H q = none → (∀ b o, H b = some o → b ≠ p → H' b = some o) → (∀ b, H' b = none → H b = none) → H' p = some (.ins cy dx (yF sc a2 a3 a4 q)) → H' q = some (.lst []) → H a2 = none → H a3 = none → H a4 = none → a3 ≠ q → a4 ≠ q →
    LedAt C (fun x => H x = none ∧ x ≠ q) H' a2 Led.init 0 → H' a3 = some (.lst []) → H' a4 = some (.lst []) → Q .non H'
def spYChange (K : PySem.W.Frag) (C : C3) (cs cy : Addr) : Sp := fun vs H Q _ => ∃ (p q sc : Addr) (G : Hp) (y : YS) (past : List YS) (ds : List PyData), vs = [.ref p, .ref sc] ∧ Fz G H ∧ YrAt K C cs cy G H p q y past ∧ ScrAt K cs G sc ds ∧ Row ds ∧ past.length ≤ 5000 ∧
  ∀ H', Nx G H H' p q → (∀ b, H' b = none → H b = none) → YrAt K C cs cy (absF G H H') H' p q { y with sc := ds } (past ++ [y]) → Q .non H'
def spYUndo (K : PySem.W.Frag) (C : C3) (cs cy : Addr) : Sp := fun vs H Q _ => ∃ (p q : Addr) (G : Hp) (y z : YS) (past : List YS), vs = [.ref p] ∧ Fz G H ∧ YrAt K C cs cy G H p q y (past ++ [z]) ∧ past.length ≤ 5000 ∧
  ∀ H', Nx G H H' p q → (∀ b, H' b = none → H b = none) → YrAt K C cs cy (absF G H H') H' p q z past → Q .non H'
theorem PastAt.snoc {K : PySem.W.Frag} {C : C3} {cs : Addr} {G : Hp} {ts : List Addr} {past : List YS} {t a1 a2 a3 a4 : Addr} {y : YS} (h : PastAt K C cs G ts past) (ht : G t = some (.tup [.ref a1, .ref a2, .ref a3, .ref a4])) (l : LevAt K C cs G a1 a2 a3 a4 y) : PastAt K C cs G (ts ++ [t]) (past ++ [y]) := by
  refine ⟨by simp [h.1], fun i t' z h1 h2 => ?_⟩
  rcases get_snoc h1 with h1 | ⟨rfl, rfl⟩
  · rcases get_snoc h2 with h2 | ⟨rfl, rfl⟩
    · exact h.2 i t' z h1 h2
    · have := (List.getElem?_eq_some_iff.mp h1).1
      have := h.1; omega
  · rcases get_snoc h2 with h2 | ⟨_, rfl⟩
    · have := (List.getElem?_eq_some_iff.mp h2).1
      have := h.1; omega
    · exact ⟨a1, a2, a3, a4, ht, l⟩
section
variable {P : Program} {w : World} {K : PySem.W.Frag} {mg : Str → Option Value} {base : Heap}
theorem ok_Years_init (T : Tx K mg) : FnOk P w K mg base CX0 4 T.Years_init.a T.Years_init.fd ["self", "script"] (spYInit K (c3 T) T.c_Script T.c_Years) := by
  have G_Ledgers_init := ok_Ledgers_init (P := P) (w := w) (base := base) T
  refine T.Years_init.F.ok sc_Years_init (fun vs H Q E h => by obtain ⟨p, dx, sc, ds, rfl, _⟩ := h; rfl) (fun cdv A outer s H vs Q E hr h => ?_)
  obtain ⟨p, dx, sc, ds, rfl, hp, hsc, hrow, k⟩ := h
  refine ⟨_, (pss_cons (ps_fldK K (pv 0) (pv 1) rfl)
  (pss_cons (ps_fldK K (pv 0) (pe_make0 T.mk_Ledgers G_Ledgers_init (hr.mono (by first | decide | omega)) rfl T.g_Ledgers T.Ledgers_init.b .nil pass0) rfl)
  (pss_cons (ps_fldK K (pv 0) (pe_lst pa_nil) rfl)
  (pss_cons (ps_fldK K (pv 0) (pe_lst pa_nil) rfl)
  (pss_one (ps_fldK K (pv 0) (pe_lst pa_nil) rfl)))))), ?_⟩
  refine ⟨_, rfl, _, rfl, p, T.c_Years, dx, _, rfl, hp, T.cl_Years, T.na_Years_plan, of_decide_eq_true rfl, ?_⟩
  refine fun b db nb ndb nd2 => ?_
  have hpb : p ≠ b := ne_of_none (show upd H p _ p = _ from upd_same) nb
  have hpd : p ≠ db := ne_of_none (show upd H p _ p = _ from upd_same) ndb
  have nbH := (updN nb).2
  have ndH := (updN ndb).2
  refine ⟨b, db, fun x => H x = none, rfl, upd_same, fun x hx => (updN (updN (updN hx).2).2).2, nbH, fun H1 led k1 => ⟨rfl, ?_⟩⟩
  have hp1 : H1 p = some _ := k1.keep p _ (show upd (upd (upd H p _) db _) b _ p = _ by rw [upd_ne hpb, upd_ne hpd]; exact upd_same) fun z => by rw [hp] at z; cases z
  have kk : ∀ x o, H x = some o → x ≠ p → H1 x = some o := fun x o e n => k1.keep x o (by rw [upd_ne (ne_of_none e nbH), upd_ne (ne_of_none e ndH), upd_ne n]; exact e) fun z => by rw [e] at z; cases z
  refine ⟨_, rfl, p, T.c_Years, dx, _, rfl, hp1, T.cl_Years, T.na_Years_ledgers, of_decide_eq_true rfl, ?_⟩
  refine ⟨line_of (Nat.zero_le _), fun s1 n1 => ⟨_, rfl, p, T.c_Years, dx, _, rfl, Same.new n1 _ _ upd_same, T.cl_Years, T.na_Years_story, of_decide_eq_true rfl, ?_⟩⟩
  refine ⟨line_of (Nat.zero_le _), fun s2 n2 => ⟨_, rfl, p, T.c_Years, dx, _, rfl, Same.new n2 _ _ upd_same, T.cl_Years, T.na_Years_wrong, of_decide_eq_true rfl, ?_⟩⟩
  refine ⟨line_of (Nat.zero_le _), fun q n3 => ⟨_, rfl, p, T.c_Years, dx, _, rfl, Same.new n3 _ _ upd_same, T.cl_Years, T.na_Years_past, of_decide_eq_true rfl, ?_⟩⟩
  have m1 := updN n1
  have m2 := updN (updN (updN n2).2).2
  have m3 := updN (updN (updN (updN (updN n3).2).2).2).2
  have m2a := updN (updN n2).2
  have m3a := updN (updN n3).2
  have m3b := updN (updN (updN (updN n3).2).2).2
  have fr : ∀ {x}, H1 x = none → H x = none := fun {x} e => by
    cases e2 : H x with
    | none => rfl
    | some o =>
      by_cases z : x = p
      · rw [z, hp1] at e; cases e
      · rw [kk x o e2 z] at e; cases e
  have up : ∀ {x o}, H1 x = some o → x ≠ p → ∀ {i1 i2 i3 i4 l1 l2 l3}, upd (upd (upd (upd (upd (upd (upd H1 p i1) s1 l1) p i2) s2 l2) p i3) q l3) p i4 x = some o := fun e n _ _ _ _ _ _ _ => by
    rw [upd_ne n, upd_ne (ne_of_none e m3.2), upd_ne n, upd_ne (ne_of_none e m2.2), upd_ne n, upd_ne (ne_of_none e m1.2), upd_ne n]; exact e
  refine k q b s1 s2 _ (fr m3.2) (fun x o e n => up (kk x o e n) n) (fun x hx => fr (updN (updN (updN (updN (updN (updN (updN hx).2).2).2).2).2).2).2) upd_same (by rw [upd_ne m3.1]; exact upd_same) nbH (fr m1.2) (fr m2.2) m3b.1.symm m3a.1.symm ?_ ?_ ?_
  · have led1 := led.sub (H' := upd H1 q (.lst [])) (T := fun x => H x = none ∧ x ≠ q) (Same.new m3.2) (fun x o e h => ⟨h, fun z => by rw [z, m3.2] at e; cases e⟩) fun x hx => ⟨fr (updN hx).2, (updN hx).1⟩
    have ne1 : ∀ {x o}, upd H1 q (.lst []) x = some o → x ≠ q → H1 x = some o := fun e n => by rw [upd_ne n] at e; exact e
    have hp2 : upd H1 q (.lst []) p = H1 p := upd_ne m3.1.symm
    refine led1.stay (fun x o e h => up (ne1 e h.2) fun z => by rw [z, hp] at h; cases h.1) ⟨fun x xs e => ?_, fun x o xs e => ?_⟩ fun x hx => ⟨fr (updN (updN (updN (updN (updN (updN (updN hx).2).2).2).2).2).2).2, (updN (updN hx).2).1⟩
    · have n1 : x ≠ p := fun z => by rw [z, hp2, hp1] at e; cases e
      have n2 : x ≠ q := fun z => by rw [z, upd_same] at e; cases e
      exact up (ne1 e n2) n1
    · have n1 : x ≠ p := fun z => by rw [z, hp2, hp1] at e; cases e
      have n2 : x ≠ q := fun z => by rw [z, upd_same] at e; cases e
      exact up (ne1 e n2) n1
  · rw [upd_ne m1.1, upd_ne m3b.1.symm, upd_ne m1.1, upd_ne m2a.1.symm, upd_ne m1.1]; exact upd_same
  · rw [upd_ne m2.1, upd_ne m3a.1.symm, upd_ne m2.1]; exact upd_same
theorem ok_Years_change (T : Tx K mg) : FnOk P w K mg base CX0 4 T.Years_change.a T.Years_change.fd ["self", "script"] (spYChange K (c3 T) T.c_Script T.c_Years) := by
  have G_Years_remember := ok_Years_remember (P := P) (w := w) (base := base) T
  refine T.Years_change.F.ok sc_Years_change (fun vs H Q E h => by obtain ⟨p, q, sc, G, y, past, ds, rfl, _⟩ := h; rfl) (fun cdv A outer s H vs Q E hr h => ?_)
  obtain ⟨p, q, sc, G, y, past, ds, rfl, fz, ⟨dx, a1, a2, a3, a4, ts, Y⟩, hsc, hrow, hz, k⟩ := h
  refine ⟨_, (pss_cons (ps_expr (pe_meth0 (pv 0) T.cl_Years T.Years_remember.m G_Years_remember (hr.mono (by first | decide | omega)) T.Years_remember.b .nil pass0))
  (pss_one (ps_fldK K (pv 0) (pv 1) rfl))), ?_⟩
  have npq : p ≠ q := ne_of Y.ob Y.pa (by intro z; cases z)
  have lt := Y.past.1
  refine ⟨_, rfl, p, dx, _, rfl, Y.ob, rfl, p, q, dx, a1, a2, a3, a4, _, rfl, Y.ob, Y.pa, by rw [List.length_map]; omega, fun t nt => ?_⟩
  have npt : p ≠ t := ne_of_none Y.ob nt
  have nqt : q ≠ t := ne_of_none Y.pa nt
  refine ⟨_, rfl, _, rfl, p, T.c_Years, dx, _, rfl, by rw [upd_ne npq, upd_ne npt]; exact Y.ob, T.cl_Years, T.na_Years_plan, of_decide_eq_true rfl, ?_⟩
  have n : Nx G H (upd (upd (upd H t (.tup [.ref a1, .ref a2, .ref a3, .ref a4])) q (.lst (ts.map V.ref ++ [.ref t]))) p (.ins T.c_Years dx (putF "plan" (.ref sc) (yF a1 a2 a3 a4 q)))) p q :=
    ⟨fz, fun b o e n1 n2 => by rw [upd_ne n1, upd_ne n2, upd_ne (ne_of_none e nt)]; exact e, fun o e => by rw [upd_same] at e; cases e; trivial, fun o e => by rw [upd_ne npq.symm, upd_same] at e; cases e; trivial⟩
  refine k _ n (fun b hb => (updN (updN (updN hb).2).2).2) ⟨dx, sc, a2, a3, a4, ts ++ [t], ⟨upd_same, by rw [upd_ne npq.symm, upd_same, List.map_append]; rfl, ?_, ?_⟩⟩
  · have l := Y.lev.mono n.sameG
    exact ⟨hsc.same n.sameG, hrow, l.led, l.st, l.ok, l.wr, l.im⟩
  · exact (Y.past.mono n.sameG).snoc (by rw [absF_new nt, upd_ne npt.symm, upd_ne nqt.symm]; exact upd_same) (Y.lev.mono n.sameG)
theorem ok_Years_undo (T : Tx K mg) : FnOk P w K mg base CX0 4 T.Years_undo.a T.Years_undo.fd ["self"] (spYUndo K (c3 T) T.c_Script T.c_Years) := by
  refine T.Years_undo.F.ok sc_Years_undo (fun vs H Q E h => by obtain ⟨p, q, G, y, z, past, rfl, _⟩ := h; rfl) (fun cdv A outer s H vs Q E hr h => ?_)
  obtain ⟨p, q, G, y, z, past, rfl, fz, ⟨dx, a1, a2, a3, a4, ts, Y⟩, hz, k⟩ := h
  refine ⟨_, (pss_cons (ps_if (pt_cmpR (op_eqE K (hu65 hr)) (pe_fldK K (pv 0) rfl) (pe_lst pa_nil) (nomark _))
  (pss_one ps_never)
  pss_nil)
  (pss_one (ps_asg (pe_bm0K K PySem.F.plainAttrs_list PySem.F.slot_list_pop PySem.F.type_list_pop mt_pop (pe_fldK K (pv 0) rfl)) (pg_tupK K rfl (pgs_cons (pg_fldK K (pv 0)) (pgs_cons (pg_fldK K (pv 0)) (pgs_cons (pg_fldK K (pv 0)) (pgs_cons (pg_fldK K (pv 0)) pgs_nil)))))))), ?_⟩
  have npq : p ≠ q := ne_of Y.ob Y.pa (by intro z; cases z)
  have lt := Y.past.1
  rw [List.length_append, List.length_singleton] at lt
  obtain ⟨us, t, rfl⟩ : ∃ us t, ts = us ++ [t] := ⟨ts.dropLast, ts.getLast (by intro e; rw [e] at lt; simp at lt), (List.dropLast_concat_getLast _).symm⟩
  have lu : us.length = past.length := by rw [List.length_append, List.length_singleton] at lt; omega
  obtain ⟨b1, b2, b3, b4, ht, lz⟩ := Y.past.2 past.length t z (by rw [← lu]; simp) (by simp)
  have pa := Y.pa
  rw [List.map_append] at pa
  refine ⟨_, rfl, p, T.c_Years, dx, _, _, rfl, Y.ob, T.cl_Years, T.na_Years_past, rfl, line_of (Nat.zero_le _), fun l nl => ⟨q, l, _, rfl, rfl, SqL.of (Same.new nl _ _ pa), SqL.of upd_same, _, rfl, iteF' (by cases us <;> rfl) ?_⟩⟩
  have sl : Same H (upd H l (.lst [])) := Same.new nl
  have htH := fz.fro _ _ ht
  have ntq : t ≠ q := ne_of htH pa (by intro z; cases z)
  have ntp : t ≠ p := ne_of htH Y.ob (by intro z; cases z)
  have npl : p ≠ l := ne_of_none Y.ob nl
  have nql : q ≠ l := ne_of_none pa nl
  refine ⟨_, rfl, p, T.c_Years, dx, _, _, rfl, sl _ _ Y.ob, T.cl_Years, T.na_Years_past, rfl, .inl ⟨rfl, _, SqL.of (sl _ _ pa)⟩, q, _, .ref t, rfl, rfl, sl _ _ pa, by simp, ?_⟩
  refine ⟨t, _, rfl, SqT.of (by rw [upd_ne ntq]; exact sl _ _ htH), rfl, ?_⟩
  refine ⟨_, _, rfl, _, rfl, p, T.c_Years, dx, _, rfl, by rw [upd_ne npq]; exact sl _ _ Y.ob, T.cl_Years, T.na_Years_plan, of_decide_eq_true rfl, ?_⟩
  refine ⟨_, _, rfl, _, rfl, p, T.c_Years, dx, _, rfl, upd_same, T.cl_Years, T.na_Years_ledgers, of_decide_eq_true rfl, ?_⟩
  refine ⟨_, _, rfl, _, rfl, p, T.c_Years, dx, _, rfl, upd_same, T.cl_Years, T.na_Years_story, of_decide_eq_true rfl, ?_⟩
  refine ⟨_, _, rfl, _, rfl, p, T.c_Years, dx, _, rfl, upd_same, T.cl_Years, T.na_Years_wrong, of_decide_eq_true rfl, ?_⟩
  refine ⟨rfl, ?_⟩
  rw [upd_upd, upd_upd, upd_upd]
  have ed : (us.map V.ref ++ [t].map V.ref).dropLast = us.map V.ref := by simp
  rw [ed]
  have n : Nx G H (upd (upd (upd H l (.lst [])) q (.lst (us.map V.ref))) p (.ins T.c_Years dx (putF "wrong" (.ref b4) (putF "story" (.ref b3) (putF "ledgers" (.ref b2) (putF "plan" (.ref b1) (yF a1 a2 a3 a4 q))))))) p q :=
    ⟨fz, fun b o e n1 n2 => by rw [upd_ne n1, upd_ne n2, upd_ne (ne_of_none e nl)]; exact e, fun o e => by rw [upd_same] at e; cases e; trivial, fun o e => by rw [upd_ne npq.symm, upd_same] at e; cases e; trivial⟩
  refine k _ n (fun b hb => (updN (updN (updN hb).2).2).2) ⟨dx, b1, b2, b3, b4, us, ⟨upd_same, by rw [upd_ne npq.symm]; exact upd_same, lz.mono n.sameG, ⟨lu, fun i t' z' h1 h2 => ?_⟩⟩⟩
  have hi := (List.getElem?_eq_some_iff.mp h1).1
  obtain ⟨c1, c2, c3, c4, h3, h4⟩ := Y.past.2 i t' z' (by rw [List.getElem?_append_left hi]; exact h1) (by rw [List.getElem?_append_left (by omega)]; exact h2)
  exact ⟨c1, c2, c3, c4, n.sameG _ _ h3, h4.mono n.sameG⟩
end
end Y

/-! # the years: deeds -/
namespace Y
open PySem L2 M
def spCheckAll (K : PySem.W.Frag) : Sp := fun vs H Q _ => ∃ (p : Addr) (fv : V) (es : List Deed), vs = [.ref p, fv] ∧ DeedsAt K H p es ∧ (∀ e ∈ es, okDeed e = true) ∧ ∀ H', Same H H' → Q .non H'
def spPlayAll (K : PySem.W.Frag) (C : C3) (cs cy : Addr) : Sp := fun vs H Q _ => ∃ (p q a : Addr) (G : Hp) (y : YS) (past : List YS) (es : List Deed) (xs : List V), vs = [.ref p, .ref a] ∧ Fz G H ∧ YrAt K C cs cy G H p q y past ∧ H a = some (.lst xs) ∧ DpAll K H xs (es.map dD) ∧ (∀ e ∈ es, okDeed e = true) ∧
  OkAll y.ws y.led es ∧ y.story.length + es.length ≤ 600 ∧ past.length ≤ 5000 ∧ G q = none ∧ a ≠ q ∧
  ∀ f fs H', H f = none → Nx G H H' p q → (∀ b, H' b = none → H b = none) → H' f = some (.lst fs) → DpAll K (absF G H H') fs (y.tells es) → YrAt K C cs cy (absF G H H') H' p q (y.all es) (past ++ [y]) → Q (.ref f) H'
def spYDo (K : PySem.W.Frag) (C : C3) (cs cy : Addr) : Sp := fun vs H Q _ => ∃ (p q : Addr) (v : V) (G : Hp) (y : YS) (past : List YS) (e : Deed), vs = [.ref p, v] ∧ Fz G H ∧ YrAt K C cs cy G H p q y past ∧ Dp K H v (dD e) ∧ okDeed e = true ∧
  okM y.led e ∧ y.story.length + 1 ≤ 600 ∧ past.length ≤ 5000 ∧ G q = none ∧
  ∀ x H', Nx G H H' p q → (∀ b, H' b = none → H b = none) → Dp K (absF G H H') x (y.tell e) → YrAt K C cs cy (absF G H H') H' p q (y.play e) (past ++ [y]) → Q x H'
def spYDoAll (K : PySem.W.Frag) (C : C3) (cs cy : Addr) : Sp := fun vs H Q _ => ∃ (p q a : Addr) (G : Hp) (y : YS) (past : List YS) (es : List Deed), vs = [.ref p, .ref a] ∧ Fz G H ∧ YrAt K C cs cy G H p q y past ∧ DeedsAt K H a es ∧ (∀ e ∈ es, okDeed e = true) ∧
  OkAll y.ws y.led es ∧ y.story.length + es.length ≤ 600 ∧ past.length ≤ 5000 ∧ G q = none ∧
  ∀ f fs H', H f = none → Nx G H H' p q → (∀ b, H' b = none → H b = none) → H' f = some (.lst fs) → DpAll K (absF G H H') fs (y.tells es) → YrAt K C cs cy (absF G H H') H' p q (y.all es) (past ++ [y]) → Q (.ref f) H'
theorem Fz.later {G H H1 : Hp} (fz : Fz G H) (s : Same H H1) : Fz (absF G H H1) H1 := ⟨fun b o e => by
  cases h : H b with
  | none => rw [absF_new h] at e; exact e
  | some u => rw [absF_old h] at e; exact s _ _ (fz.fro _ _ e), fun b o e ht => by
  cases h : H b with
  | none => rw [absF_new h]; exact e
  | some u =>
    have := s _ _ h
    rw [e] at this; cases this
    rw [absF_old h]; exact fz.tp b o h ht⟩
theorem absF_then {G H H1 H2 H' : Hp} {p q : Addr} (s1 : Same H H1) (s2 : Same H1 H2) (n : Nx (absF G H H1) H2 H' p q) (g : Same G H) (hp : H p ≠ none) (hq : H q ≠ none) : Same (absF (absF G H H1) H2 H') (absF G H H') := fun b o e => by
  cases h2 : H2 b with
  | none =>
    rw [absF_new h2] at e
    rw [absF_new (s1.free (s2.free h2))]; exact e
  | some u =>
    rw [absF_old h2] at e
    cases h : H b with
    | none =>
      rw [absF_new h] at e
      rw [absF_new h]
      exact n.kp b o (s2 b o e) (fun z => hp (by rw [← z]; exact h)) fun z => hq (by rw [← z]; exact h)
    | some v =>
      rw [absF_old h] at e
      rw [absF_old h]; exact e
theorem Nx.base {G G2 H H2 H' : Hp} {p q : Addr} (n : Nx G2 H2 H' p q) (s : Same H H2) (fz : Fz G H) : Nx G H H' p q := ⟨fz, fun b o e n1 n2 => n.kp b o (s b o e) n1 n2, n.np, n.nq⟩
theorem Fz.addL {G H : Hp} {l : Addr} {vs : List V} (fz : Fz G H) (h : H l = none) : Fz G (upd H l (.lst vs)) := ⟨fz.fro.trans (Same.new h), fun b o e ht => by
  by_cases z : b = l
  · rw [z, upd_same] at e; cases e; exact absurd trivial ht
  · rw [upd_ne z] at e; exact fz.tp b o e ht⟩
theorem dp_retV {K : PySem.W.Frag} {H : Hp} {ws : List (List Str)} {L : Led} {e : Deed} (h : e ≠ .run) : Dp K H (retV L e) (retD ws L e) := by
  cases e <;> first | exact .int _ | exact .non | exact absurd rfl h
section
variable {P : Program} {w : World} {K : PySem.W.Frag} {mg : Str → Option Value} {base : Heap}
theorem ok_check_all (T : Tx K mg) : FnOk P w K mg base CX0 4 T.check_all.a T.check_all.fd ["deeds", "first"] (spCheckAll K) := by
  have G_is_deed := ok_is_deed (P := P) (w := w) (base := base) T
  refine T.check_all.F.ok sc_check_all (fun vs H Q E h => by obtain ⟨p, fv, es, rfl, _⟩ := h; rfl) (fun cdv A outer s H vs Q E hr h => ?_)
  obtain ⟨p, fv, es, rfl, ⟨xs, hp, hxs⟩, hok, q⟩ := h
  refine ⟨_, (pss_cons (ps_if (pt_not (pt_val (pe_callB (call_isDK K) (by rfl) T.b_isinstance (by decide +kernel) (pa_cons (pv 0) (pa_cons (pe_bltn (v := .ty "list") (by rfl) T.b_list (by decide +kernel) rfl) pa_nil)))))
  (pss_one ps_never)
  pss_nil)
  (pss_one (ps_for PassesOwn.never rfl (pi_enum (by rfl) T.b_enumerate (pa_cons (pv 0) pa_nil)) (pg_tupK K rfl (pgs_cons (pg_name (i := 2) sc_check_all.nd rfl (Or.inl rfl)) (pgs_cons (pg_name (i := 3) sc_check_all.nd rfl (Or.inl rfl)) pgs_nil)))
  (pss_one (ps_if (pt_not (pt_val (pe_call G_is_deed (hr.mono (by first | decide | omega)) rfl T.is_deed.g T.is_deed.F.kp T.is_deed.b .nil pass0 (pa_cons (pv 3) pa_nil))))
  (pss_one ps_never)
  pss_nil))))), ?_⟩
  have tyL : TyX K H (.ref p) (.type "list") := (Dp.lst hp hxs).ty
  refine ⟨_, rfl, .ref p, "list", "list", rfl, tyL, by decide, by decide, _, rfl, iteF' rfl ?_⟩
  refine ⟨_, rfl, p, xs, rfl, hp, for_enumL (K := K) (a := p) (xs := xs) (fun i σ H' => Same H H' ∧ ∃ v2 v3, σ = [some (.ref p), some fv, v2, v3]) ⟨Same.refl H, none, none, rfl⟩ (fun i σ H' _ ⟨s, _⟩ => hp.same s) ?_ ?_⟩
  · rintro i x T0 σ H' hi ⟨s, v2, v3, rfl⟩ nT
    obtain ⟨d, h1, h2⟩ := hxs.get' hi
    rw [List.getElem?_map] at h1
    obtain ⟨e, he, rfl⟩ := Option.map_eq_some_iff.mp h1
    have sT : Same H' (upd H' T0 (.tup [.int (i : Nat), x])) := Same.new nT
    refine ⟨T0, _, rfl, SqT.of upd_same, rfl, _, _, rfl, _, _, rfl, rfl, ?_⟩
    refine ⟨_, rfl, x, _, rfl, (s.trans sT).dp h2, deed_shaped e, deed_len e, fun H2 s2 => ⟨_, rfl, ?_⟩⟩
    have := hok e (List.mem_of_getElem? he)
    unfold okDeed at this
    refine iteF' (by rw [this]; rfl) ⟨(s.trans sT).trans s2, _, _, rfl⟩
  · rintro σ H' ⟨s, v2, v3, rfl⟩
    exact q H' s
theorem ok_play_all (T : Tx K mg) : FnOk P w K mg base CX0 9 T.Years_play_all.a T.Years_play_all.fd ["self", "deeds"] (spPlayAll K (c3 T) T.c_Script T.c_Years) := by
  have G_Years_remember := ok_Years_remember (P := P) (w := w) (base := base) T
  have G_Ledgers_twin := ok_Ledgers_twin (P := P) (w := w) (base := base) T
  have G_Ledgers_check := ok_check (P := P) (w := w) (base := base) T
  have G_Ledgers_wrongs := ok_wrongs (P := P) (w := w) (base := base) T
  have G_Ledgers_play_deed := ok_play_deed (P := P) (w := w) (base := base) T (ok_run (P := P) (w := w) (base := base) T)
  have G_Script_steps := ok_Script_steps (P := P) (w := w) (base := base) T
  refine T.Years_play_all.F.ok sc_Years_play_all (fun vs H Q E h => by obtain ⟨p, q, a, G, y, past, es, xs, rfl, _⟩ := h; rfl) (fun cdv A outer s H vs Q E hr h => ?_)
  obtain ⟨p, q, a, G, y, past, es, xs, rfl, fz, ⟨dx, a1, a2, a3, a4, ts, Y⟩, ha, hxs, hok, hall, hz, hpz, hGq, naq, k⟩ := h
  refine ⟨_, (pss_cons (ps_par3 (i := 2) (j := 3) (l := 4) rfl sc_Years_play_all.nd rfl rfl rfl (by decide) (by decide) (by decide) rfl rfl rfl (pa_cons (pe_meth0 (pe_fldK K (pv 0) rfl) T.cl_Ledgers T.Ledgers_twin.m G_Ledgers_twin (hr.mono (by first | decide | omega)) T.Ledgers_twin.b .nil pass0) (pa_cons (pe_fldK K (pv 0) rfl) (pa_cons (pe_lst pa_nil) pa_nil))) rfl)
  (pss_cons (ps_for PassesOwn.never rfl (pi_enum (by rfl) T.b_enumerate (pa_cons (pv 1) pa_nil)) (pg_tupK K rfl (pgs_cons (pg_name (i := 5) sc_Years_play_all.nd rfl (Or.inl rfl)) (pgs_cons (pg_name (i := 6) sc_Years_play_all.nd rfl (Or.inl rfl)) pgs_nil)))
  (pss_cons (ps_set (i := 7) sc_Years_play_all.nd rfl (Or.inl rfl) (pe_op op_add (pe_callB (call_lenK K) (by rfl) T.b_len (by decide +kernel) (pa_cons (pe_fldK K (pv 0) rfl) pa_nil)) (pv 5)))
  (pss_cons (ps_expr (pe_meth (pv 2) T.cl_Ledgers T.Ledgers_check.m G_Ledgers_check (hr.mono (by first | decide | omega)) T.Ledgers_check.b .nil pass0 (pa_cons (pv 6) (pa_cons (pv 7) pa_nil))))
  (pss_cons (ps_expr (pe_bmK2 K PySem.F.plainAttrs_list PySem.F.slot_list_append PySem.F.type_list_append mt_append (pv 4) (pa_cons (pe_meth (pv 2) T.cl_Ledgers T.Ledgers_play_deed.m G_Ledgers_play_deed (hr.mono (by first | decide | omega)) T.Ledgers_play_deed.b .nil pass0 (pa_cons (pe_meth0 (pe_fldK K (pv 0) rfl) T.cl_Script T.Script_steps.m G_Script_steps (hr.mono (by first | decide | omega)) T.Script_steps.b .nil pass0) (pa_cons (pv 6) pa_nil))) pa_nil)))
  (pss_one (ps_if (pt_cmpR (op_eqDK K (hu65 hr)) (pv 6) (pe_tup (pa_cons pe_str pa_nil)) (nomark _))
  (pss_one (ps_set (i := 3) sc_Years_play_all.nd rfl (Or.inl rfl) (pe_meth (pv 2) T.cl_Ledgers T.Ledgers_wrongs.m G_Ledgers_wrongs (hr.mono (by first | decide | omega)) T.Ledgers_wrongs.b .nil pass0 (pa_cons (pv 7) pa_nil))))
  pss_nil))))))
  (pss_cons (ps_expr (pe_meth0 (pv 0) T.cl_Years T.Years_remember.m G_Years_remember (hr.mono (by first | decide | omega)) T.Years_remember.b .nil pass0))
  (pss_cons (ps_asg (pe_tup (pa_cons (pv 2) (pa_cons (pe_op op_cat (pe_fldK K (pv 0) rfl) (pv 1)) (pa_cons (pv 3) pa_nil)))) (pg_tupK K rfl (pgs_cons (pg_fldK K (pv 0)) (pgs_cons (pg_fldK K (pv 0)) (pgs_cons (pg_fldK K (pv 0)) pgs_nil)))))
  (pss_one (ps_ret (pv 4))))))), ?_⟩
  have npq : p ≠ q := ne_of Y.ob Y.pa (by intro z; cases z)
  obtain ⟨da, m1, m2, m3, md, os, ns, L⟩ := id Y.lev.led
  have Lh : LedAt (c3 T) (fun _ => True) H a2 y.led y.story.length := ⟨_, _, _, _, _, _, _, L.stay (fun b o e _ => fz.fro b o e) fz.fro.tups fun _ _ => trivial⟩
  obtain ⟨ss, hss, hds⟩ := Y.lev.st
  obtain ⟨w0, hw0, hdw⟩ := Y.lev.wr
  have hsl := hds.length
  rw [List.length_map] at hsl
  have hxl := hxs.length
  rw [List.length_map] at hxl
  refine ⟨_, rfl, p, T.c_Years, dx, _, _, rfl, Y.ob, T.cl_Years, T.na_Years_ledgers, rfl, a2, da, _, rfl, fz.fro _ _ L.ob, rfl, a2, _, y.led, _, rfl, Lh, by omega, fun b H1 s1 nb led1 => ?_⟩
  refine ⟨_, rfl, p, T.c_Years, dx, _, _, rfl, s1 _ _ Y.ob, T.cl_Years, T.na_Years_wrong, rfl, line_of (Nat.zero_le _), fun f nf => ⟨_, _, _, rfl, ?_⟩⟩
  have nfH : H f = none := s1.free nf
  have s2 : Same H (upd H1 f (.lst [])) := s1.trans (Same.new nf)
  have led2 : LedAt (c3 T) (fun x => H x = none ∧ x ≠ f) (upd H1 f (.lst [])) b y.led y.story.length := led1.sub (Same.new nf) (fun x o e h => ⟨h, fun z => by rw [z, nf] at e; cases e⟩) fun x hx => ⟨s2.free hx, (updN hx).1⟩
  have na4 : a4 ≠ f := ne_of_none (fz.fro _ _ hw0) nfH
  obtain ⟨sdx, sv, hsc1, hsc2⟩ := id Y.lev.sc
  have hsc1 := fz.fro _ _ hsc1
  have hsc2 := fz.fro.dp hsc2
  have hpH := Y.ob
  have nfp : f ≠ p := fun z => by rw [z, hpH] at nfH; cases nfH
  refine ⟨_, rfl, a, xs, rfl, SqL.of (s2 _ _ ha), for_enumL (K := K) (a := a) (xs := xs) (fun i σ H' => ∃ (S : Addr → Prop) (wr : Addr) (ws fs : List V) (v5 v6 v7 : Option V), σ = [some (.ref p), some (.ref a), some (.ref b), some (.ref wr), some (.ref f), v5, v6, v7] ∧ Same H H' ∧ (∀ x, S x → (H x = none ∧ x ≠ f) ∧ x ≠ wr) ∧
    LedAt (c3 T) S H' b (y.all (es.take i)).led (y.story.length + i) ∧ H' f = some (.lst fs) ∧ fs.length = i ∧ DpAll K (newS (fun x => H x = none ∧ x ≠ f) S H') fs (y.tells (es.take i)) ∧ H' wr = some (.lst ws) ∧ DpAll K H' ws (y.all (es.take i)).wrong ∧ immAll (y.all (es.take i)).wrong = true ∧ wr ≠ f ∧ (H wr = none ∨ G wr = some (.lst ws)))
    ⟨fun x => H x = none ∧ x ≠ f, a4, w0, [], none, none, none, rfl, s2, fun x h => ⟨h, fun z => by rw [z, fz.fro _ _ hw0] at h; cases h.1⟩, led2, upd_same, rfl, .nil, s2 _ _ (fz.fro _ _ hw0), s2.dpAll (fz.fro.dpAll hdw), Y.lev.im, na4, .inr hw0⟩ (fun i σ H' _ ⟨_, _, _, _, _, _, _, _, s, _⟩ => SqL.of (s _ _ ha)) ?_ ?_⟩
  · rintro i x T0 σ H' hi ⟨S, wr, ws, fs, v5, v6, v7, rfl, s, hS, led, hf, hfl, hfs, hwr, hws, him, nwf, hwo⟩ nT
    obtain ⟨dd, h1, h2⟩ := hxs.get' hi
    rw [List.getElem?_map] at h1
    obtain ⟨e, he, rfl⟩ := Option.map_eq_some_iff.mp h1
    have hil : i < es.length := (List.getElem?_eq_some_iff.mp he).1
    have hem := List.mem_of_getElem? he
    have sT : Same H' (upd H' T0 (.tup [.int (i : Nat), x])) := Same.new nT
    have s4 := s.trans sT
    have okm := hall.there he
    have ysc : (y.all (es.take i)).sc = y.sc := y.all_sc _
    have yst : (y.all (es.take i)).story.length = y.story.length + i := by rw [y.all_story, List.length_append, List.length_take]; omega
    rw [← y.all_led] at okm
    obtain ⟨pd, rfl, hpd⟩ := dD_inv h2
    obtain ⟨db, l1, l2, l3, d, os1, ns1, lp⟩ := id (led.same sT)
    refine ⟨T0, _, rfl, SqT.of upd_same, rfl, _, _, rfl, _, _, rfl, rfl, ?_⟩
    refine ⟨_, rfl, p, T.c_Years, dx, _, _, rfl, s4 _ _ hpH, T.cl_Years, T.na_Years_story, rfl, _, _, rfl, .inl ⟨_, SqL.of (s4 _ _ (fz.fro _ _ hss)), rfl⟩, _, rfl, _, _, rfl, rfl, ?_⟩
    refine ⟨_, rfl, b, db, _, rfl, lp.ob, rfl, _, rfl, _, rfl, b, pd, _, S, _, _, e, rfl, LedP.toA lp, by omega, s4.sqT hpd, okm, fun H5 s5 => ?_⟩
    have lp5 := lp.same s5
    have s05 := s4.trans s5
    have sH5 := sT.trans s5
    have hf5 := sH5 _ _ hf
    refine ⟨_, rfl, .inl ⟨rfl, fs, SqL.of hf5⟩, ?_⟩
    refine ⟨_, rfl, b, db, _, rfl, lp5.ob, rfl, _, rfl, p, T.c_Years, dx, _, _, rfl, s05 _ _ hpH, T.cl_Years, T.na_Years_plan, rfl, a1, sdx, _, rfl, s05 _ _ hsc1, kf_no _ (by decide +kernel), a1, sdx, sv, rfl, s05 _ _ hsc1, _, rfl, ?_⟩
    have aft : ∀ (v : V) (H6 : Hp) (S6 : Addr → Prop), (∀ x, S6 x → S x) → Keep S H5 H6 → LedAt (c3 T) S6 H6 b ((y.all (es.take i)).play e).led (y.story.length + (i + 1)) → DpAll K (newS (fun x => H x = none ∧ x ≠ f) S6 H6) (fs ++ [v]) (y.tells (es.take (i + 1))) →
        Same H H6 ∧ H6 f = some (.lst fs) ∧ Same H (upd H6 f (.lst (fs ++ [v]))) ∧ LedAt (c3 T) S6 (upd H6 f (.lst (fs ++ [v]))) b ((y.all (es.take i)).play e).led (y.story.length + (i + 1)) ∧ DpAll K (newS (fun x => H x = none ∧ x ≠ f) S6 (upd H6 f (.lst (fs ++ [v])))) (fs ++ [v]) (y.tells (es.take (i + 1))) ∧ upd H6 f (.lst (fs ++ [v])) wr = some (.lst ws) ∧ DpAll K (upd H6 f (.lst (fs ++ [v]))) ws (y.all (es.take i)).wrong := by
      intro v H6 S6 h6 k6 led6 hd6
      have nSf : ¬ S f := fun h => (hS f h).1.2 rfl
      have nSw : ¬ S wr := fun h => (hS wr h).2 rfl
      have sH6 : Same H H6 := fun b o e => k6.keep b o (s05 b o e) fun h => by rw [(hS b h).1.1] at e; cases e
      have hf6 := k6.keep _ _ hf5 nSf
      have tf : Tups H6 (upd H6 f (.lst (fs ++ [v]))) := Tups.mut (by rw [hf6]; trivial)
      obtain ⟨_, _, _, _, _, _, _, lp6⟩ := id led6
      refine ⟨sH6, hf6, sH6.mut nfH, led6.stay (fun x o e h => by rw [upd_ne (hS x (h6 x h)).1.2]; exact e) tf fun x hx => lp6.dom x (updN hx).2, ?_, by rw [upd_ne nwf]; exact k6.keep _ _ (sH5 _ _ hwr) nSw, tf.dpAll him (k6.tups.dpAll him (sH5.dpAll hws))⟩
      refine Same.dpAll (fun b o e => ?_) hd6
      obtain ⟨g1, g2, g3⟩ := newS_inv e
      rw [newS_some g1 g2, upd_ne g1.2]; exact g3
    have eA : y.all (es.take (i + 1)) = (y.all (es.take i)).play e := y.all_snoc he
    have eT : y.tells (es.take (i + 1)) = y.tells (es.take i) ++ [(y.all (es.take i)).tell e] := y.tells_snoc he
    have ews : (y.all (es.take i)).ws = y.sc.map wordsOf := by unfold YS.ws; rw [ysc]
    have hN : ∀ x, S x → H x = none ∧ x ≠ f := fun x h => (hS x h).1
    have tst : ∀ {H6 : Hp} {R : Bool → Hp → Prop} (σ : St), σ[6]? = some (some (.ref pd)) → Dp K H6 (.ref pd) (dD e) → (∀ H7, Same H6 H7 → R (isRun e) H7) → tTest (tOp (rEqD K) (tVar 6) (tTup (tCons (tC (.str "run")) tNil))) σ H6 R := by
      intro H6 R σ h5 hdp k
      refine ⟨_, h5, line_of (by show 1 ≤ 100000; decide), fun t nt => ⟨dD e, .tuple [.str "run"], (Same.new nt).dp hdp, .tupOf upd_same (.one (.str _)), deed_shaped e, by decide +kernel, _, rfl, ?_⟩⟩
      rw [eqv_run]; exact k _ (Same.new nt)
    by_cases hr : isRun e = true
    · have er : e = .run := by cases e <;> simp [isRun] at hr; rfl
      subst er
      refine ⟨b, pd, sv, S, _, _, .run, rfl, LedP.toA lp5, by omega, s05.sqT hpd, okm, .inr ⟨rfl, b, sv, y.sc, S, _, _, rfl, LedP.toA lp5, by omega, s05.dp hsc2, Y.lev.row, fun v H6 S6 hs6 k6 led6 hv => ?_⟩⟩
      have led6' : LedAt (c3 T) S6 H6 b ((y.all (es.take i)).play .run).led (y.story.length + (i + 1)) := by
        show LedAt (c3 T) S6 H6 b (runM (y.all (es.take i)).ws (y.all (es.take i)).led) _
        rw [ews]; exact led6.mono (by omega)
      have hd6 : DpAll K (newS (fun x => H x = none ∧ x ≠ f) S6 H6) (fs ++ [v]) (y.tells (es.take (i + 1))) := by
        rw [eT]
        refine ((newS_later (fun _ h => h) (sH5.kp.trans k6) hs6).dpAll hfs).snoc ?_
        show Dp K _ v (runD (y.all (es.take i)).ws (y.all (es.take i)).led)
        rw [ews]
        exact (newS_later hN (Keep.refl S6 H6) fun _ h => h).dp hv
      obtain ⟨sH6, hf6, sH7, led7, hd7, hw7, hws7⟩ := aft v H6 S6 hs6 k6 led6' hd6
      refine ⟨f, fs, v, rfl, rfl, hf6, line_lt (by omega), ?_⟩
      have hf7 : upd H6 f (.lst (fs ++ [v])) f = some (.lst (fs ++ [v])) := upd_same
      generalize upd H6 f (.lst (fs ++ [v])) = H7 at sH7 led7 hd7 hw7 hws7 hf7 ⊢
      refine tst _ rfl (sH7.dp h2) fun H8 s8 => iteT' rfl ?_
      have led8 := led7.same s8
      obtain ⟨db8, _, _, _, _, _, _, lp8⟩ := id led8
      refine ⟨_, rfl, b, db8, _, rfl, lp8.ob, rfl, _, rfl, b, _, S6, _, _, rfl, led8, by omega, fun p8 xs8 H9 np8 s9 hp8 hxs8 => ?_⟩
      have s79 := s8.trans s9
      have n8 : H7 p8 = none := s8.free np8
      have nfp8 : p8 ≠ f := fun z => by rw [z, hf7] at n8; cases n8
      rw [eA] at *
      refine ⟨fun x => S6 x ∧ x ≠ p8, p8, xs8, fs ++ [v], _, _, _, rfl, sH7.trans s79, fun x h => ⟨hN x (hs6 x h.1), h.2⟩, ?_, s79 _ _ hf7, by simp [hfl], ?_, hp8, ?_, ?_, nfp8, .inl (sH7.free n8)⟩
      · exact led8.sub s9 (fun x o e h => ⟨h, fun z => by rw [z, np8] at e; cases e⟩) fun x hx => ⟨lp8.dom x (s9.free hx), fun z => by rw [z, hp8] at hx; cases hx⟩
      · refine Same.dpAll (fun x o e => ?_) hd7
        obtain ⟨g1, g2, g3⟩ := newS_inv e
        rw [newS_some g1 fun h => g2 h.1]; exact s79 _ _ g3
      · have ei : ((ss.length : Nat) : Int) + ((i : Nat) : Int) = (((y.all (es.take i)).story.length : Nat) : Int) := by rw [yst, hsl]; push_cast; rfl
        rw [ei] at hxs8
        exact hxs8
      · exact imm_wD _ _
    · have hr : isRun e = false := by simpa using hr
      have ene : e ≠ .run := fun z => by rw [z] at hr; cases hr
      refine ⟨b, pd, sv, S, _, _, e, rfl, LedP.toA lp5, by omega, s05.sqT hpd, okm, .inl ⟨ene, fun H6 k6 led6 => ?_⟩⟩
      have led6' : LedAt (c3 T) S H6 b ((y.all (es.take i)).play e).led (y.story.length + (i + 1)) := by
        show LedAt (c3 T) S H6 b (playM (y.all (es.take i)).ws (y.all (es.take i)).led e) _
        rw [playM_nr ene (y.all (es.take i)).ws []]
        exact led6
      have hd6 : DpAll K (newS (fun x => H x = none ∧ x ≠ f) S H6) (fs ++ [retV (y.all (es.take i)).led e]) (y.tells (es.take (i + 1))) := by
        rw [eT]
        exact ((newS_later (fun _ h => h) (sH5.kp.trans k6) fun _ h => h).dpAll hfs).snoc (dp_retV ene)
      obtain ⟨sH6, hf6, sH7, led7, hd7, hw7, hws7⟩ := aft _ H6 S (fun _ h => h) k6 led6' hd6
      refine ⟨f, fs, _, rfl, rfl, hf6, line_lt (by omega), ?_⟩
      have hf7 : upd H6 f (.lst (fs ++ [retV (y.all (es.take i)).led e])) f = some (.lst (fs ++ [retV (y.all (es.take i)).led e])) := upd_same
      generalize upd H6 f (.lst (fs ++ [retV (y.all (es.take i)).led e])) = H7 at sH7 led7 hd7 hw7 hws7 hf7 ⊢
      refine tst _ rfl (sH7.dp h2) fun H8 s8 => iteF' hr ?_
      have ewr : ((y.all (es.take i)).play e).wrong = (y.all (es.take i)).wrong := by
        show (if isRun e = true then _ else _) = _
        rw [hr]; rfl
      rw [eA, ewr]
      refine ⟨S, wr, ws, fs ++ [retV (y.all (es.take i)).led e], _, _, _, rfl, sH7.trans s8, hS, led7.same s8, s8 _ _ hf7, by simp [hfl], ?_, s8 _ _ hw7, s8.dpAll hws7, him, nwf, hwo⟩
      refine Same.dpAll (fun x o e => ?_) hd7
      obtain ⟨g1, g2, g3⟩ := newS_inv e
      rw [newS_some g1 g2]; exact s8 _ _ g3
  · rintro σ H' ⟨S, wr, ws, fs, v5, v6, v7, rfl, s, hS, led, hf, hfl, hfs, hwr, hws, him, nwf, hwo⟩
    rw [hxl, List.take_length] at led hfs hws him
    have hpH' := s _ _ hpH
    have hqH' := s _ _ Y.pa
    refine ⟨_, rfl, p, dx, _, rfl, hpH', rfl, p, q, dx, a1, a2, a3, a4, _, rfl, hpH', hqH', by rw [List.length_map]; have := Y.past.1; omega, fun t nt => ?_⟩
    have npt : p ≠ t := ne_of_none hpH' nt
    have nqt : q ≠ t := ne_of_none hqH' nt
    have ntH : H t = none := s.free nt
    have fT : ∀ {x o}, H' x = some o → x ≠ q → ∀ {u v}, upd (upd H' t u) q v x = some o := fun e n _ _ => by rw [upd_ne n, upd_ne (ne_of_none e nt)]; exact e
    have n3q : a3 ≠ q := fun z => by rw [z, hGq] at hss; cases hss
    refine ⟨_, rfl, _, rfl, p, T.c_Years, dx, _, _, rfl, fT hpH' npq, T.cl_Years, T.na_Years_story, rfl, _, rfl, a3, a, ss, xs, rfl, rfl, fT (s _ _ (fz.fro _ _ hss)) n3q, fT (s _ _ ha) naq, Nat.le_trans (show ss.length + xs.length ≤ 600 by omega) (by show 600 ≤ sizeLine; decide), fun st nst => ?_⟩
    refine ⟨_, rfl, line_of (by show 3 ≤ 100000; decide), fun u nu => ?_⟩
    refine ⟨u, _, rfl, SqT.of upd_same, rfl, ?_⟩
    have t1 := updN nst
    have t2 := updN t1.2
    have u1 := updN nu
    have u2 := updN u1.2
    have u3 := updN u2.2
    have nps : p ≠ st := fun z => by rw [← z, hpH'] at t2; cases t2.2
    have npu : p ≠ u := fun z => by rw [← z, hpH'] at u3; cases u3.2
    refine ⟨_, _, rfl, _, rfl, p, T.c_Years, dx, _, rfl, by rw [upd_ne npu, upd_ne nps, upd_ne npq, upd_ne npt]; exact hpH', T.cl_Years, T.na_Years_ledgers, of_decide_eq_true rfl, ?_⟩
    refine ⟨_, _, rfl, _, rfl, p, T.c_Years, dx, _, rfl, upd_same, T.cl_Years, T.na_Years_story, of_decide_eq_true rfl, ?_⟩
    refine ⟨_, _, rfl, _, rfl, p, T.c_Years, dx, _, rfl, upd_same, T.cl_Years, T.na_Years_wrong, of_decide_eq_true rfl, ?_⟩
    refine ⟨rfl, _, rfl, ?_⟩
    rw [upd_upd, upd_upd]
    have hup : ∀ {x o}, H' x = some o → x ≠ p → x ≠ q → ∀ {T1 Lq Ls U I}, upd (upd (upd (upd (upd H' t T1) q Lq) st Ls) u U) p I x = some o := fun e n1 n2 _ _ _ _ _ => by
      rw [upd_ne n1, upd_ne (ne_of_none e u3.2), upd_ne (ne_of_none e t2.2), upd_ne n2, upd_ne (ne_of_none e nt)]; exact e
    have hst : ∀ {T1 Lq Ls U I}, upd (upd (upd (upd (upd H' t T1) q Lq) st Ls) u U) p I st = some Ls := fun {_ _ _ _ _} => by rw [upd_ne nps.symm, upd_ne u1.1.symm, upd_same]
    have hqf : ∀ {T1 Lq Ls U I}, upd (upd (upd (upd (upd H' t T1) q Lq) st Ls) u U) p I q = some Lq := fun {_ _ _ _ _} => by rw [upd_ne npq.symm, upd_ne u2.1.symm, upd_ne t1.1.symm, upd_same]
    have htf : ∀ {T1 Lq Ls U I}, upd (upd (upd (upd (upd H' t T1) q Lq) st Ls) u U) p I t = some T1 := fun {_ _ _ _ _} => by rw [upd_ne npt.symm, upd_ne u3.1.symm, upd_ne t2.1.symm, upd_ne nqt.symm, upd_same]
    have hpf : ∀ {T1 Lq Ls U I}, upd (upd (upd (upd (upd H' t T1) q Lq) st Ls) u U) p I p = some I := fun {_ _ _ _ _} => upd_same
    have hno : ∀ {x T1 Lq Ls U I}, upd (upd (upd (upd (upd H' t T1) q Lq) st Ls) u U) p I x = none → H' x = none := fun {_ _ _ _ _ _} h => (updN (updN (updN (updN (updN h).2).2).2).2).2
    have pq := @hqf
    generalize hHf : upd (upd (upd (upd (upd H' t (.tup [.ref a1, .ref a2, .ref a3, .ref a4])) q (.lst (ts.map V.ref ++ [.ref t]))) st (.lst (ss ++ xs))) u (.tup [.ref b, .ref st, .ref wr])) p _ = Hf
    have gup : ∀ {x o}, H' x = some o → x ≠ p → x ≠ q → Hf x = some o := fun e n1 n2 => by rw [← hHf]; exact hup e n1 n2
    have gst : Hf st = some (.lst (ss ++ xs)) := by rw [← hHf]; exact hst
    have gq : Hf q = some (.lst (ts.map V.ref ++ [.ref t])) := by rw [← hHf]; exact hqf
    have gt : Hf t = some (.tup [.ref a1, .ref a2, .ref a3, .ref a4]) := by rw [← hHf]; exact htf
    have gp : Hf p = some (.ins T.c_Years dx (yF a1 b st wr q)) := by rw [← hHf]; exact hpf
    have gno : ∀ {x}, Hf x = none → H' x = none := fun h => by rw [← hHf] at h; exact hno h
    clear hup hst hqf htf hpf hno pq hHf
    have n : Nx G H Hf p q := ⟨fz, fun x o e n1 n2 => gup (s _ _ e) n1 n2, fun o e => by rw [gp] at e; cases e; trivial, fun o e => by rw [gq] at e; cases e; trivial⟩
    have nfq : f ≠ q := fun z => by rw [z, Y.pa] at nfH; cases nfH
    have tu : Tups H' Hf := ⟨fun x ys e => gup e (fun z => by rw [z, hpH'] at e; cases e) (fun z => by rw [z, hqH'] at e; cases e), fun x o ys e => gup e (fun z => by rw [z, hpH'] at e; cases e) (fun z => by rw [z, hqH'] at e; cases e)⟩
    have nH : ∀ {x}, H x = none → x ≠ p ∧ x ≠ q := fun h => ⟨(fun z => by rw [z, hpH] at h; cases h), (fun z => by rw [z, Y.pa] at h; cases h)⟩
    obtain ⟨_, _, _, _, _, _, _, lpE⟩ := id led
    refine k f fs Hf nfH n (fun x hx => s.free (gno hx)) (gup hf nfp nfq) (Same.dpAll (fun x o e => ?_) hfs) ⟨dx, a1, b, st, wr, ts ++ [t], ⟨gp, by rw [gq, List.map_append]; rfl, ⟨?_, ?_, ?_, ?_, ?_, ?_, him⟩, ?_⟩⟩
    · obtain ⟨g1, g2, g3⟩ := newS_inv e
      rw [absF_new g1.1]; exact gup g3 (nH g1.1).1 (nH g1.1).2
    · rw [y.all_sc]; exact Y.lev.sc.same n.sameG
    · rw [y.all_sc]; exact Y.lev.row
    · rw [y.all_story, List.length_append]
      exact n.led (fun x h => (hS x h).1.1) (led.stay (fun x o e h => gup e (nH (hS x h).1.1).1 (nH (hS x h).1.1).2) tu fun x hx => lpE.dom x (gno hx))
    · refine ⟨ss ++ xs, by rw [absF_new (s.free t2.2)]; exact gst, ?_⟩
      rw [y.all_story, List.map_append]
      exact (n.sameG.dpAll hds).append (n.immAll (imm_dDs es) ((s.tups.trans tu).dpAll (imm_dDs es) hxs))
    · rw [y.all_story]
      intro e he
      rcases List.mem_append.mp he with he | he
      · exact Y.lev.ok e he
      · exact hok e he
    · have nwp : wr ≠ p := ne_of hwr hpH' (by intro z; cases z)
      refine ⟨ws, ?_, n.immAll him (tu.dpAll him hws)⟩
      rcases hwo with h | h
      · rw [absF_new h]; exact gup hwr nwp (nH h).2
      · exact n.sameG _ _ h
    · exact (Y.past.mono n.sameG).snoc (by rw [absF_new ntH]; exact gt) (Y.lev.mono n.sameG)
theorem ok_Years_do (T : Tx K mg) : FnOk P w K mg base CX0 10 T.Years_do.a T.Years_do.fd ["self", "deed"] (spYDo K (c3 T) T.c_Script T.c_Years) := by
  have G_check_all := ok_check_all (P := P) (w := w) (base := base) T
  have G_Years_play_all := ok_play_all (P := P) (w := w) (base := base) T
  refine T.Years_do.F.ok sc_Years_do (fun vs H Q E h => by obtain ⟨p, q, v, G, y, past, e, rfl, _⟩ := h; rfl) (fun cdv A outer s H vs Q E hr h => ?_)
  obtain ⟨p, q, v, G, y, past, e, rfl, fz, ⟨dx, a1, a2, a3, a4, ts, Y⟩, hv, hok, hm, hz, hpz, hGq, k⟩ := h
  refine ⟨_, (pss_cons (ps_expr (pe_call G_check_all (hr.mono (by first | decide | omega)) rfl T.check_all.g T.check_all.F.kp T.check_all.b .nil pass0 (pa_cons (pe_lst (pa_cons (pv 1) pa_nil)) (pa_cons (pe_callB (call_lenK K) (by rfl) T.b_len (by decide +kernel) (pa_cons (pe_fldK K (pv 0) rfl) pa_nil)) pa_nil))))
  (pss_one (ps_ret (pe_ix (ix_listK K) (pe_meth (pv 0) T.cl_Years T.Years_play_all.m G_Years_play_all (hr.mono (by first | decide | omega)) T.Years_play_all.b .nil pass0 (pa_cons (pe_lst (pa_cons (pv 1) pa_nil)) pa_nil)) pe_int (fun _ _ => rfl))))), ?_⟩
  obtain ⟨ss, hss, hds⟩ := Y.lev.st
  have one : ∀ x ∈ [e], okDeed x = true := fun x hx => by rw [List.mem_singleton.mp hx]; exact hok
  refine ⟨_, rfl, line_of (by show 1 ≤ 100000; decide), fun l nl => ?_⟩
  have s1 : Same H (upd H l (.lst [v])) := Same.new nl
  refine ⟨_, rfl, p, T.c_Years, dx, _, _, rfl, s1 _ _ Y.ob, T.cl_Years, T.na_Years_story, rfl, _, _, rfl, .inl ⟨_, SqL.of (s1 _ _ (fz.fro _ _ hss)), rfl⟩, ?_⟩
  refine ⟨l, _, [e], rfl, ⟨[v], SqL.of upd_same, .cons (s1.dp hv) .nil⟩, one, fun H1 s2 => ?_⟩
  refine ⟨_, rfl, p, dx, _, rfl, s2 _ _ (s1 _ _ Y.ob), rfl, _, rfl, line_of (by show 1 ≤ 100000; decide), fun m nm => ?_⟩
  have s12 := s1.trans s2
  have s3 : Same H1 (upd H1 m (.lst [v])) := Same.new nm
  have fz1 := (fz.later s12).addL (vs := [v]) nm
  have g1 : Same G (absF G H H1) := absF_same fz.fro
  have hqs : H q ≠ none := by rw [Y.pa]; simp
  have hps : H p ≠ none := by rw [Y.ob]; simp
  have hq1 : absF G H H1 q = none := by rw [absF_old Y.pa]; exact hGq
  refine ⟨p, q, m, absF G H H1, y, past, [e], [v], rfl, fz1, YrAt.mono ⟨dx, a1, a2, a3, a4, ts, Y⟩ g1 (fun b _ o e => s3 _ _ (s12 _ _ e)), upd_same, .cons (s3.dp (s12.dp hv)) .nil, one, ⟨hm, trivial⟩, hz, hpz, hq1, fun z => by rw [z] at nm; exact hqs (s12.free nm), fun f fs H' nf n dm hf hfs hY => ?_⟩
  have sT := absF_then s12 s3 n fz.fro hps hqs
  cases hfs with
  | cons hx hr =>
    cases hr
    exact ⟨f, _, 0, _, rfl, rfl, SqL.of hf, rfl, k _ H' (n.base (s12.trans s3) fz) (fun b hb => s12.free (s3.free (dm b hb))) (sT.dp hx) (hY.mono sT fun _ _ _ h => h)⟩
theorem ok_Years_do_all (T : Tx K mg) : FnOk P w K mg base CX0 10 T.Years_do_all.a T.Years_do_all.fd ["self", "deeds"] (spYDoAll K (c3 T) T.c_Script T.c_Years) := by
  have G_check_all := ok_check_all (P := P) (w := w) (base := base) T
  have G_Years_play_all := ok_play_all (P := P) (w := w) (base := base) T
  refine T.Years_do_all.F.ok sc_Years_do_all (fun vs H Q E h => by obtain ⟨p, q, a, G, y, past, es, rfl, _⟩ := h; rfl) (fun cdv A outer s H vs Q E hr h => ?_)
  obtain ⟨p, q, a, G, y, past, es, rfl, fz, ⟨dx, a1, a2, a3, a4, ts, Y⟩, ⟨xs, ha, hxs⟩, hok, hall, hz, hpz, hGq, k⟩ := h
  refine ⟨_, (pss_cons (ps_expr (pe_call G_check_all (hr.mono (by first | decide | omega)) rfl T.check_all.g T.check_all.F.kp T.check_all.b .nil pass0 (pa_cons (pv 1) (pa_cons (pe_callB (call_lenK K) (by rfl) T.b_len (by decide +kernel) (pa_cons (pe_fldK K (pv 0) rfl) pa_nil)) pa_nil))))
  (pss_one (ps_ret (pe_meth (pv 0) T.cl_Years T.Years_play_all.m G_Years_play_all (hr.mono (by first | decide | omega)) T.Years_play_all.b .nil pass0 (pa_cons (pe_callTy (call_lstK K) (by rfl) T.b_list (by decide +kernel) (pa_cons (pv 1) pa_nil)) pa_nil))))), ?_⟩
  obtain ⟨ss, hss, hds⟩ := Y.lev.st
  refine ⟨_, rfl, _, rfl, p, T.c_Years, dx, _, _, rfl, Y.ob, T.cl_Years, T.na_Years_story, rfl, _, _, rfl, .inl ⟨_, SqL.of (fz.fro _ _ hss), rfl⟩, ?_⟩
  refine ⟨a, _, es, rfl, ⟨xs, ha, hxs⟩, hok, fun H1 s1 => ?_⟩
  refine ⟨_, rfl, p, dx, _, rfl, s1 _ _ Y.ob, rfl, _, rfl, a, xs, rfl, .inl (ha.same s1), fun m nm => ?_⟩
  have s3 : Same H1 (upd H1 m (.lst xs)) := Same.new nm
  have fz1 := (fz.later s1).addL (vs := xs) nm
  have g1 : Same G (absF G H H1) := absF_same fz.fro
  have hqs : H q ≠ none := by rw [Y.pa]; simp
  have hps : H p ≠ none := by rw [Y.ob]; simp
  have hq1 : absF G H H1 q = none := by rw [absF_old Y.pa]; exact hGq
  refine ⟨p, q, m, absF G H H1, y, past, es, xs, rfl, fz1, YrAt.mono ⟨dx, a1, a2, a3, a4, ts, Y⟩ g1 (fun b _ o e => s3 _ _ (s1 _ _ e)), upd_same, s3.dpAll (s1.dpAll hxs), hok, hall, hz, hpz, hq1, fun z => by rw [z] at nm; exact hqs (s1.free nm), fun f fs H' nf n dm hf hfs hY => ?_⟩
  have sT := absF_then s1 s3 n fz.fro hps hqs
  exact k f fs H' (s1.free (s3.free nf)) (n.base (s1.trans s3) fz) (fun b hb => s1.free (s3.free (dm b hb))) hf (sT.dpAll hfs) (hY.mono sT fun _ _ _ h => h)
end
end Y

/-! # years as cells -/
namespace Y
open PySem L2 M
def yrC (K : PySem.W.Frag) (C3' : C3) (cs cy : Addr) (y : YS) (past : List YS) : Cell := .o ⟨fun F H own => ∃ p q, own = [p, q] ∧ YrAt K C3' cs cy F H p q y past, fun {F F' H H' own} h s k => by
  obtain ⟨p, q, rfl, h⟩ := h
  exact ⟨p, q, rfl, h.mono s k⟩⟩
section
variable {K : PySem.W.Frag} {C cy : Addr} {D : C3} {F F' H H' : Hp} {as as' : Own} {cs cs' cs1 : List Cell} {E : AEnv} {k : AV → List Cell → Prop} {x : AV} {te : TE} {tas : TA} {X : XK} {y z : YS} {past : List YS} {i : Nat}
theorem Wd.fz (w : Wd K C F as cs H) : Fz F H := ⟨w.fro, w.tp⟩
theorem Wd.yr (w : Wd K C F as cs H) {own : List Addr} (hi : as[i]? = some own) (hc : cs[i]? = some (yrC K D C cy y past)) : ∃ p q, own = [p, q] ∧ YrAt K D C cy F H p q y past := by
  have := w.ok i own _ hi hc
  unfold yrC at this
  cases this with | o h => exact h
theorem Wd.stepY (w : Wd K C F as cs H) {p q : Addr} {y' : YS} {past' : List YS} (hi : as[i]? = some [p, q]) (n : Nx F H H' p q) (dm : ∀ b, H' b = none → H b = none) (hY : YrAt K D C cy (absF F H H') H' p q y' past') :
    Wd K C (absF F H H') as (cs.set i (yrC K D C cy y' past')) H' ∧ Stp as.length F as H (absF F H H') as H' := by
  refine w.absorb (fun b o e hn => n.kp b o e (fun z => hn ⟨i, _, hi, by rw [z]; simp⟩) fun z => hn ⟨i, _, hi, by rw [z]; simp⟩) dm (List.length_set) (fun j own c hj hc => ?_) fun j own hj b hb o e => ?_
  · rw [List.getElem?_set] at hc
    by_cases e : i = j
    · subst e
      rw [if_pos rfl] at hc
      rw [hi] at hj; cases hj
      split at hc
      · cases hc; exact .o ⟨p, q, rfl, hY⟩
      · cases hc
    · rw [if_neg e] at hc
      refine (w.ok j own c hj hc).mono (absF_same w.fro) Pre.refl fun b hb u h => ?_
      exact n.kp b u h (fun z => w.sep i j [p, q] own hi hj e p (by simp) (by rw [← z]; exact hb)) fun z => w.sep i j [p, q] own hi hj e q (by simp) (by rw [← z]; exact hb)
  · by_cases n1 : b = p
    · exact n.np o (by rw [← n1]; exact e)
    · by_cases n2 : b = q
      · exact n.nq o (by rw [← n2]; exact e)
      · cases h : H b with
        | none => exact absurd h (w.dis j own hj b hb).2
        | some u =>
          have := n.kp b u h n1 n2
          rw [e] at this; cases this
          exact w.mu j own hj b hb o h
/-- what a method of years asks of the world -/
def YM (K : PySem.W.Frag) (C cy : Addr) (D : C3) (sp : Sp) (X : XK) (i : Nat) (y : YS) (past : List YS) (xs : List AV) (cs : List Cell) (k : AV → List Cell → Prop) : Prop :=
  ∀ (F : Hp) (as : Own) (H : Hp) (p q : Addr) (vs : List V) (Q : VK), Wd K C F as cs H → as[i]? = some [p, q] → YrAt K D C cy F H p q y past → F q = none → ARs K C F as xs vs → Kt K C F as H k Q → sp (.ref p :: vs) H Q X
theorem ev_yM {m : Str} {sp : Sp} (hm : ∀ a1 a2 a3 a4 q, (yF a1 a2 a3 a4 q).lookup m = none) (h : Ev K C E cs te fun x cs1 => ∃ i y0 past0, x = .cel i ∧ cs1[i]? = some (yrC K D C cy y0 past0) ∧ Evs K C E cs1 tas fun xs cs2 => ∃ y past, cs2[i]? = some (yrC K D C cy y past) ∧ YM K C cy D sp X i y past xs cs2 k) :
    Ev K C E cs (tMeth cy m sp [] X te tas) k := fun F as H σ Q w e z => by
  refine h F as H σ _ w e fun x cs1 v F1 as1 H1 ⟨i, y0, past0, hx, hc, h1⟩ s1 w1 r1 => ?_
  subst hx
  cases r1 with | @cel _ p r hi =>
  obtain ⟨p', q, ho, dx, a1, a2, a3, a4, ts, Y⟩ := w1.yr hi hc
  cases ho
  refine ⟨_, dx, _, rfl, Y.ob, hm _ _ _ _ _, ?_⟩
  refine h1 F1 as1 H1 σ _ w1 (e.mono s1.f s1.pre) fun xs cs2 vs F2 as2 H2 ⟨y, past, hc2, hY⟩ s2 w2 r2 => ?_
  obtain ⟨r, hi2⟩ := s2.pre _ _ hi
  obtain ⟨p2, q2, ho2, hY2⟩ := w2.yr hi2 hc2
  obtain ⟨rfl, rfl, rfl⟩ : p = p2 ∧ q = q2 ∧ r = [] := by simpa using ho2
  rw [List.append_nil]
  exact hY F2 as2 H2 p q vs Q w2 hi2 hY2 (w2.dis _ _ hi2 q (by simp)).1 r2 (Kt.later z (s1.tr s2))
theorem ev_yM0 {m : Str} {sp : Sp} (hm : ∀ a1 a2 a3 a4 q, (yF a1 a2 a3 a4 q).lookup m = none) (h : Ev K C E cs te fun x cs1 => ∃ i y past, x = .cel i ∧ cs1[i]? = some (yrC K D C cy y past) ∧ YM K C cy D sp X i y past [] cs1 k) :
    Ev K C E cs (tMeth cy m sp [] X te tNil) k :=
  ev_yM hm fun F as H σ Q w e z => h F as H σ Q w e fun x cs1 v F1 as1 H1 ⟨i, y, past, hx, hc, hY⟩ => z x cs1 v F1 as1 H1 ⟨i, y, past, hx, hc, fun F as H σ Q w e z => z [] cs1 [] F as H ⟨y, past, hc, hY⟩ Stp.refl w .nil⟩
theorem YrAt.up (h : YrAt K D C cy F H p q y past) (s : Same F H) : YrAt K D C cy H H p q y past := h.mono s fun _ _ _ h => h
theorem ym_do {e : Deed} (hok : okDeed e = true) (hm : okM y.led e) (hz : y.story.length + 1 ≤ 600) (hp : past.length ≤ 5000) (h : k (.d (y.tell e)) (cs.set i (yrC K D C cy (y.play e) (past ++ [y])))) : YM K C cy D (spYDo K D C cy) X i y past [.d (dD e)] cs k := fun F as H p q vs Q w hi hY hq r z => by
  cases r with | cons r1 r2 =>
  cases r2
  cases r1 with | d r1 =>
  refine ⟨p, q, _, F, y, past, e, rfl, w.fz, hY, w.fro.dp r1, hok, hm, hz, hp, hq, fun x H' n dm hx hY' => ?_⟩
  obtain ⟨w', s'⟩ := w.stepY hi n dm hY'
  exact z _ _ _ _ _ _ h s' w' (.d hx)
theorem ym_doAll {es : List Deed} (hj : lstOf x cs = some (es.map dD)) (hok : ∀ e ∈ es, okDeed e = true) (hall : OkAll y.ws y.led es) (hz : y.story.length + es.length ≤ 600) (hp : past.length ≤ 5000)
    (h : k (.d (.list (y.tells es))) (cs.set i (yrC K D C cy (y.all es) (past ++ [y])))) : YM K C cy D (spYDoAll K D C cy) X i y past [x] cs k := fun F as H p q vs Q w hi hY hq r z => by
  cases r with | cons r1 r2 =>
  cases r2
  obtain ⟨a, xs, rfl, h1, h2⟩ := lstOf_at hj w r1
  refine ⟨p, q, a, F, y, past, es, rfl, w.fz, hY, ⟨xs, h1, w.fro.dpAll h2⟩, hok, hall, hz, hp, hq, fun f fs H' nf n dm hf hfs hY' => ?_⟩
  obtain ⟨w', s'⟩ := w.stepY hi n dm hY'
  exact z _ _ _ _ _ _ h s' w' (.d (.lst (SqL.of (by rw [absF_new nf]; exact hf)) hfs))
theorem ym_change {ds : List PyData} (hr : Row ds) (hp : past.length ≤ 5000) (h : k (.d .none) (cs.set i (yrC K D C cy { y with sc := ds } (past ++ [y])))) : YM K C cy D (spYChange K D C cy) X i y past [.scr ds] cs k := fun F as H p q vs Q w hi hY hq r z => by
  cases r with | cons r1 r2 =>
  cases r2
  cases r1 with | scr r1 =>
  refine ⟨p, q, _, F, y, past, ds, rfl, w.fz, hY, r1, hr, hp, fun H' n dm hY' => ?_⟩
  obtain ⟨w', s'⟩ := w.stepY hi n dm hY'
  exact z _ _ _ _ _ _ h s' w' (.d .non)
theorem ym_undo (hp : past.length ≤ 5000) (h : k (.d .none) (cs.set i (yrC K D C cy z past))) : YM K C cy D (spYUndo K D C cy) X i y (past ++ [z]) [] cs k := fun F as H p q vs Q w hi hY hq r zz => by
  cases r
  refine ⟨p, q, F, y, z, past, rfl, w.fz, hY, hp, fun H' n dm hY' => ?_⟩
  obtain ⟨w', s'⟩ := w.stepY hi n dm hY'
  exact zz _ _ _ _ _ _ h s' w' (.d .non)
theorem ym_len (h : k (.d (.int y.story.length)) cs) : YM K C cy D (spYLen K D C cy) X i y past [] cs k := fun F as H p q vs Q w hi hY hq r z => by
  cases r
  exact ⟨p, q, y, past, rfl, hY.up w.fro, z.now h w (.d (.int _))⟩
theorem ym_runs (hz : y.story.length ≤ 5000) (h : k (.d (.int (y.story.filter isRun).length)) cs) : YM K C cy D (spYRuns K D C cy) X i y past [] cs k := fun F as H p q vs Q w hi hY hq r z => by
  cases r
  refine ⟨p, q, y, past, rfl, hY.up w.fro, hz, fun H' s => ?_⟩
  exact z.newD w s (.int _) rfl h
theorem ym_script (h : k (.scr y.sc) cs) : YM K C cy D (spYScript K D C cy) X i y past [] cs k := fun F as H p q vs Q w hi hY hq r z => by
  cases r
  exact ⟨p, q, F, y, past, rfl, hY, fun a ha => z.now h w (.scr ha)⟩
theorem imm_oRows (L : Led) : immAll (oRows L) = true := imm_all fun d hd => by
  obtain ⟨j, o, rfl⟩ := mem_oRows hd
  simp [oRow, imm, immAll, imm_tD]
theorem imm_nRows (L : Led) : immAll (nRows L) = true := imm_all fun d hd => by
  obtain ⟨n, _, rfl⟩ := List.mem_map.mp hd
  simp [nRow, imm, immAll, imm_tD]
theorem ym_old (hz : y.story.length ≤ 4990) (h : k (.cel cs.length) (cs ++ [.l (oRows y.led)])) : YM K C cy D (spYOld K D C cy) X i y past [] cs k := fun F as H p q vs Q w hi hY hq r z => by
  cases r
  exact ⟨p, q, y, past, rfl, hY.up w.fro, hz, fun e xs H' s ne he hx => z.newL w s ne he hx (imm_oRows _) h⟩
theorem ym_new (hz : y.story.length ≤ 4990) (h : k (.cel cs.length) (cs ++ [.l (nRows y.led)])) : YM K C cy D (spYNew K D C cy) X i y past [] cs k := fun F as H p q vs Q w hi hY hq r z => by
  cases r
  exact ⟨p, q, y, past, rfl, hY.up w.fro, hz, fun e xs H' s ne he hx => z.newL w s ne he hx (imm_nRows _) h⟩
theorem ym_faults (h : k (.cel cs.length) (cs ++ [.l y.wrong])) : YM K C cy D (spYFaults K D C cy) X i y past [] cs k := fun F as H p q vs Q w hi hY hq r z => by
  cases r
  have im : immAll y.wrong = true := by
    obtain ⟨_, _, _, _, _, _, Y⟩ := hY
    exact Y.lev.im
  exact ⟨p, q, y, past, rfl, hY.up w.fro, fun l xs nl hx => z.newL w (Same.new nl) nl upd_same ((Same.new nl).dpAll hx) im h⟩
theorem ym_made {n : Int} (hz : y.story.length ≤ 4990) (hin : inO y.led n) (h : k (.d (tD (madeNo y.led.later n))) cs) : YM K C cy D (spYMade K D C cy) X i y past [.d (.int n)] cs k := fun F as H p q vs Q w hi hY hq r z => by
  cases r with | cons r1 r2 =>
  cases r2
  cases r1 with | d r1 =>
  refine ⟨p, q, n, y, past, by rw [r1.int_inv], hY.up w.fro, hz, hin, fun H' s => ?_⟩
  exact z.newD w s (dp_tv _) (imm_tD _) h
theorem LedAt.toG {S : Addr → Prop} {G' : Hp} {a : Addr} {L : Led} {B : Nat} (h : LedAt D S H' a L B) (hS : ∀ x, S x → G' x = H' x) (ht : ∀ t xs, H' t = some (.tup xs) → G' t = some (.tup xs)) : LedAt D (fun _ => True) G' a L B := by
  obtain ⟨da, l1, l2, l3, d, os, ns, P⟩ := h
  obtain ⟨tps, t1, t2, t3⟩ := P.ah
  exact ⟨da, l1, l2, l3, d, os, ns, ⟨by rw [hS _ P.sa.1]; exact P.ob, P.el, P.la, by rw [hS _ P.sa.2.1]; exact P.e, by rw [hS _ P.sa.2.2.1]; exact P.n, by rw [hS _ P.sa.2.2.2.1]; exact P.f, ⟨tps, t1, by rw [hS _ P.sa.2.2.2.2]; exact t2, fun i x t h1 h2 => ht _ _ (t3 i x t h1 h2)⟩,
    fun j x hx => let ⟨dx, h1⟩ := P.po j x hx; ⟨dx, by rw [hS _ (P.so x (List.mem_of_getElem? hx))]; exact h1⟩,
    fun x hx => let ⟨⟨dx, h1⟩, h2⟩ := P.qo x hx; ⟨⟨dx, by rw [hS _ (P.sn x hx).1]; exact h1⟩, by rw [hS _ (P.sn x hx).2]; exact h2⟩, P.ld, ⟨trivial, trivial, trivial, trivial, trivial⟩, fun _ _ => trivial, fun _ _ => ⟨trivial, trivial⟩, fun _ _ => trivial, P.wf⟩⟩
/-- Years(script) -/
theorem ev_makeY (h : Evs K C E cs tas fun xs cs1 => ∃ ds, xs = [.scr ds] ∧ Row ds ∧ k (.cel cs1.length) (cs1 ++ [yrC K D C cy (YS.init ds) []])) : Ev K C E cs (tMake cy (spYInit K D C cy) [] X tas) k := fun F as H σ Q w e z => by
  refine h F as H σ _ w e fun xs cs1 vs F1 as1 H1 ⟨ds, hx, hr, h1⟩ s1 w1 r1 x dx nx ndx nex => ?_
  subst hx
  cases r1 with | cons r1 r2 =>
  cases r2
  cases r1 with | scr r1 =>
  have r0 : ScrAt K C F1 _ ds := r1
  have sI : Same H1 (upd (upd H1 dx (.own x)) x (.ins cy dx [])) := fun b o e => by rw [upd_ne (ne_of_none e nx), upd_ne (ne_of_none e ndx)]; exact e
  refine ⟨x, dx, _, ds, rfl, upd_same, (r0.same w1.fro).same sI, hr, fun q a2 a3 a4 H' nq kp dm hx hq n2 n3 n4 nq3 nq4 led h3 h4 => ⟨rfl, ?_⟩⟩
  have q1 := updN nq
  have q2 := updN q1.2
  have nHq : H1 q = none := q2.2
  have kk : ∀ b o, H1 b = some o → H' b = some o := fun b o e => kp b o (sI _ _ e) (ne_of_none e nx)
  have dd : ∀ b, H' b = none → H1 b = none := fun b hb => (updN (updN (dm b hb)).2).2
  have new1 : ∀ {b}, upd (upd H1 dx (.own x)) x (.ins cy dx []) b = none → b ≠ x ∧ H1 b = none := fun hb => ⟨(updN hb).1, (updN (updN hb).2).2⟩
  obtain ⟨F2, hF2⟩ : ∃ F2 : Hp, F2 = fun b => if b = x ∨ b = q then none else absF F1 H1 H' b := ⟨_, rfl⟩
  have fx : F2 x = none := by rw [hF2]; simp
  have fq : F2 q = none := by rw [hF2]; simp
  have fo : ∀ {b}, b ≠ x → b ≠ q → F2 b = absF F1 H1 H' b := fun n1 n2 => by rw [hF2]; simp [n1, n2]
  have oldb : ∀ {b o}, H1 b = some o → F2 b = F1 b := fun e => by rw [fo (ne_of_none e nx) (ne_of_none e nHq), absF_old e]
  have newb : ∀ {b}, H1 b = none → b ≠ x → b ≠ q → F2 b = H' b := fun e n1 n2 => by rw [fo n1 n2, absF_new e]
  have sF : Same F1 F2 := fun b o e => by rw [oldb (w1.fro _ _ e)]; exact e
  have tup : ∀ b o, H' b = some o → ¬ NoTup o → F2 b = some o := fun b o e ht => by
    have b1 : b ≠ x := fun zz => by rw [zz, hx] at e; cases e; exact ht trivial
    have b2 : b ≠ q := fun zz => by rw [zz, hq] at e; cases e; exact ht trivial
    cases g : H1 b with
    | none => rw [newb g b1 b2]; exact e
    | some u =>
      have := kk b u g
      rw [e] at this; cases this
      rw [oldb g]; exact w1.tp b o g ht
  have hY : YrAt K D C cy F2 H' x q (YS.init ds) [] := by
    have l3 := new1 n3
    have l4 := new1 n4
    refine ⟨dx, _, a2, a3, a4, [], ⟨hx, hq, ⟨r0.same sF, hr, LedAt.toG led (fun b hb => newb (new1 hb.1).2 (new1 hb.1).1 hb.2) fun t xs ht => tup t _ ht fun zz => zz, ⟨[], by rw [newb l3.2 l3.1 nq3]; exact h3, .nil⟩, fun e he => absurd he List.not_mem_nil, ⟨[], by rw [newb l4.2 l4.1 nq4]; exact h4, .nil⟩, rfl⟩, ⟨rfl, fun i t zz e1 e2 => by simp at e1⟩⟩⟩
  have nb : ∀ {i own}, as1[i]? = some own → ∀ b ∈ own, b ≠ x ∧ b ≠ q := fun hi b hb => ⟨fun zz => (w1.dis _ _ hi b hb).2 (zz ▸ nx), fun zz => (w1.dis _ _ hi b hb).2 (zz ▸ nHq)⟩
  have own2 : ∀ {b}, b ∈ [x, q] → b = x ∨ b = q := fun hb => by simpa using hb
  refine z _ _ _ F2 (as1 ++ [[x, q]]) H' h1 (s1.trans ⟨sF, fun i hi own ho => Pre.snoc i own ho, fun b u h _ => kk b u h, dd, fun b u h => ?_, fun b ⟨i, own, hi, hb⟩ => ?_⟩) ⟨fun b o e => ?_, fun i own hi b hb => ?_, fun i j own own' hi hj hij b hb => ?_, fun i own hi => ?_, by simp [w1.len], fun i own c' hi hc' => ?_, fun i own hi b hb u h => ?_, tup⟩ ?_
  · cases g : H1 b with
    | none => exact .inr rfl
    | some v => rw [oldb g] at h; exact .inl h
  · rcases get_snoc hi with hi | ⟨_, rfl⟩
    · exact .inl ⟨i, own, hi, hb⟩
    · rcases own2 hb with rfl | rfl
      · exact .inr nx
      · exact .inr nHq
  · have b1 : b ≠ x := fun zz => by rw [zz, fx] at e; cases e
    have b2 : b ≠ q := fun zz => by rw [zz, fq] at e; cases e
    cases g : H1 b with
    | none => rw [newb g b1 b2] at e; exact e
    | some v => rw [oldb g] at e; exact kk _ _ (w1.fro _ _ e)
  · rcases get_snoc hi with hi | ⟨_, rfl⟩
    · have d := w1.dis i own hi b hb
      cases g : H1 b with
      | none => exact absurd g d.2
      | some v => exact ⟨by rw [oldb g]; exact d.1, fun zz => d.2 (dd b zz)⟩
    · rcases own2 hb with rfl | rfl
      · exact ⟨fx, by rw [hx]; simp⟩
      · exact ⟨fq, by rw [hq]; simp⟩
  · rcases get_snoc hi with hi | ⟨rfl, rfl⟩ <;> rcases get_snoc hj with hj | ⟨rfl, rfl⟩
    · exact w1.sep i j own own' hi hj hij b hb
    · exact fun zz => (own2 zz).elim (nb hi _ hb).1 (nb hi _ hb).2
    · exact fun zz => (own2 hb).elim (nb hj _ zz).1 (nb hj _ zz).2
    · exact absurd rfl hij
  · rcases get_snoc hi with hi | ⟨rfl, rfl⟩
    · exact w1.nd i own hi
    · simpa using fun zz : x = q => q1.1 zz.symm
  · rcases get_snoc hi with hi | ⟨rfl, rfl⟩
    · rw [List.getElem?_append_left (by rw [← w1.len]; exact (List.getElem?_eq_some_iff.mp hi).1)] at hc'
      exact (w1.ok i own c' hi hc').mono sF Pre.snoc fun b _ o h => kk b o h
    · rw [w1.len] at hc'
      rcases get_snoc hc' with zz | ⟨_, rfl⟩
      · rw [List.getElem?_eq_none (Nat.le_refl _)] at zz; cases zz
      · exact .o ⟨x, q, rfl, hY⟩
  · rcases get_snoc hi with hi | ⟨rfl, rfl⟩
    · cases g : H1 b with
      | none => exact absurd g (w1.dis i own hi b hb).2
      | some v =>
        have := kk b v g
        rw [h] at this; cases this
        exact w1.mu i own hi b hb u g
    · rcases own2 hb with rfl | rfl
      · rw [hx] at h; cases h; trivial
      · rw [hq] at h; cases h; trivial
  · rw [← w1.len]
    exact .cel (r := [q]) (by simp)
end
end Y

/-! # a law, over pure states -/
namespace Y
open PySem L2 M
def spLaw (K : PySem.W.Frag) : Sp := fun vs H Q _ => ∃ (a : Addr) (ns : List Int), vs = [.ref a] ∧ SqL K H a (ns.map V.int) ∧ ns.length ≤ 63 ∧ ∀ H', Q (.bl true) H'
def ApLaw : ASp := fun xs cs k => ∃ ns : List Int, xs = [.d (.list (ns.map PyData.int))] ∧ cs = [] ∧ ns.length ≤ 63 ∧ k (.d (.bool true)) []
theorem dp_intsV {K : PySem.W.Frag} {H : Hp} : ∀ ns : List Int, DpAll K H (ns.map V.int) (ns.map PyData.int)
  | [] => .nil
  | n :: ns => .cons (.int n) (dp_intsV ns)
/-- all that stands is frozen -/
theorem Wd.whole {K : PySem.W.Frag} {C : Addr} {H : Hp} : Wd K C H [] [] H := ⟨Same.refl H, fun i own h => by simp at h, fun i j own own' h => by simp at h, fun i own h => by simp at h, rfl, fun i own c h => by simp at h, fun i own h => by simp at h, fun b o h _ => h⟩
theorem law_of {K : PySem.W.Frag} {C : Addr} {P : Program} {w : World} {mg : Str → Option Value} {base : Heap} {n : Nat} {a : Addr} {fd : FuncData} {ps : List Str} (h : FnOk P w K mg base CX0 n a fd ps (spA K C ApLaw)) : FnOk P w K mg base CX0 n a fd ps (spLaw K) := h.imp fun vs H Q E ⟨b, ns, hv, hs, hl, q⟩ => by
  subst hv
  exact ⟨H, [], [], [.d (.list (ns.map PyData.int))], fun r _ => r = .d (.bool true), Wd.whole, .cons (.d (.lst hs (dp_intsV ns))) .nil, ⟨ns, rfl, rfl, hl, rfl⟩, fun r cs' v F' as' H' hr _ _ hv => by
    subst hr
    cases hv with | d hv => rw [hv.bl_inv]; exact q H'⟩
end Y

/-! # the years' laws: draws -/
namespace Y
open PySem L2
local macro_rules | `(tactic| walk_at "a") => `(tactic| repeat (first
  | (with_reducible apply ev_int) | (with_reducible apply ev_str) | (with_reducible apply ev_bl) | (with_reducible apply ev_non) | (with_reducible apply ev_ty)
  | ((with_reducible apply ev_var); · rfl)
  | (with_reducible apply ev_op) | (with_reducible apply ev_un) | (with_reducible apply evs_nil) | (with_reducible apply evs_cons) | (with_reducible apply ev_cb) | (with_reducible apply ev_if)
  | (with_reducible apply et_test) | (with_reducible apply et_B) | (with_reducible apply et_and) | (with_reducible apply et_or) | (with_reducible apply et_not)
  | (with_reducible apply ex_seq) | (with_reducible apply ex_name) | (with_reducible apply ex_to) | (with_reducible apply ex_ret) | (with_reducible apply ex_if) | (with_reducible apply ex_drop) | (with_reducible apply ex_retN) | (with_reducible apply ex_next)
  | (with_reducible apply ex_par) | (with_reducible apply ex_par3) | (with_reducible apply eg_sub) | (with_reducible apply eg_name)
  | (with_reducible apply o_int) | (with_reducible apply o_bl) | (with_reducible apply o1_neg)
  | (with_reducible apply ev_andV) | (with_reducible apply ev_orV) | (with_reducible apply ev_notV)
  | (with_reducible apply ev_sl) | (with_reducible apply eo_part) | (with_reducible apply eo_no) | (with_reducible apply ev_bm) | (with_reducible apply ev_bm0)
  | (with_reducible apply ite_f) | (with_reducible apply ite_t) | (with_reducible apply ev_tupD) | (with_reducible apply ev_chain)
  | ((with_reducible apply o_ixL); (· rfl); (· rfl)) | ((with_reducible apply o_ixT); (· rfl); (· rfl))
  | ((with_reducible apply o_eq); (· rfl); (· rfl); (· rfl)) | ((with_reducible apply o_ne); (· rfl); (· rfl); (· rfl))
  | (with_reducible apply o_isN) | (with_reducible apply o_notN)
  | (with_reducible apply on_int) | (with_reducible apply on_intB) | (with_reducible apply on_max) | (with_reducible apply on_min) | (with_reducible apply on_abs)
  | ((with_reducible apply on_lenL); (· rfl)) | ((with_reducible apply on_lenT); (· rfl)) | ((with_reducible apply on_isD); (· rfl); (· decide))
  | ((with_reducible apply isSub); (· rfl); (· rfl)) | (with_reducible apply isB) | (with_reducible apply isI) | (with_reducible apply is2) | (with_reducible apply is3) | (with_reducible apply isI1) | (with_reducible apply isI2) | (with_reducible apply isT) | (with_reducible apply isL) | (with_reducible apply isScr) | ((with_reducible apply isDs); (· rfl); (· rfl))
  | ((with_reducible apply o_inT); (· rfl); (· rfl); (· decide +kernel); (· decide +kernel)) | ((with_reducible apply o_eqD); (· rfl); (· rfl); (· decide +kernel); (· decide +kernel))
  | ((with_reducible apply iteT'); · decide +kernel) | ((with_reducible apply iteF'); · decide +kernel)))
/-- a jar with at most B turns -/
def PotD (ws : List PyData) (B : Int) : Prop := ∃ w0 w1 w2 : Int, ws = [.int w0, .int w1, .int w2] ∧ 0 ≤ w1 ∧ w1 < 2 ^ 200 ∧ 0 ≤ w2 ∧ w2 ≤ B
theorem PotD.mono {ws : List PyData} {B B' : Int} (h : PotD ws B) (hb : B ≤ B') : PotD ws B' := by
  obtain ⟨w0, w1, w2, h1, h2, h3, h4, h5⟩ := h
  exact ⟨w0, w1, w2, h1, h2, h3, h4, Int.le_trans h5 hb⟩
def ApJar : ASp := fun xs cs k => ∃ (ns : List Int) (i : Int), xs = [.d (.list (ns.map PyData.int)), .d (.int i)] ∧ cs = [] ∧ ns.length ≤ 63 ∧ 0 ≤ i ∧ i ≤ 1000 ∧ ∀ ws, PotD ws 0 → k (.cel 0) [.l ws]
def ApDraw : ASp := fun xs cs k => ∃ (ws : List PyData) (many B : Int), xs = [.cel 0, .d (.int many)] ∧ cs = [.l ws] ∧ PotD ws B ∧ B < 2 ^ 60 ∧ 0 < many ∧ many < 2 ^ 200 ∧ ∀ (r : Int) ws', 0 ≤ r → r < many → PotD ws' (B + 1) → k (.d (.int r)) [.l ws']
def ApNum (P : PyData → Bool) : ASp := fun xs cs k => ∃ (ws : List PyData) (B : Int), xs = [.cel 0] ∧ cs = [.l ws] ∧ PotD ws B ∧ B < 2 ^ 50 ∧ ∀ (r : Int) ws', P (.int r) = true → PotD ws' (B + 5) → k (.d (.int r)) [.l ws']
/-- any steps: where few draws are taken -/
def ApStep1 : ASp := fun xs cs k => ∃ (ws : List PyData) (B : Int), xs = [.cel 0] ∧ cs = [.l ws] ∧ PotD ws B ∧ B < 2 ^ 50 ∧ ∀ d ws', d ∈ STEPSD → PotD ws' (B + 1) → k (.d d) [.l ws']
/-- the deeds that can be played at any time -/
def ActD (t : Int) (e : M.Deed) : Prop := e ∈ [M.Deed.add t (t - 2), .label 1 t, .moves 1 t, .tie 1 (some 1), .tie 1 none, .own t, .wlabel 1 t, .wtie 1 (some 1), .run]
def ApAct : ASp := fun xs cs k => ∃ (ws : List PyData) (B : Int), xs = [.cel 0] ∧ cs = [.l ws] ∧ PotD ws B ∧ B < 2 ^ 40 ∧ ∀ e ws', (∃ t, 0 ≤ t ∧ t < 5 ∧ ActD t e) → PotD ws' (B + 2) → k (.d (dD e)) [.l ws']
def ApPlan : ASp := fun xs cs k => ∃ (ws : List PyData) (B : Int), xs = [.cel 0] ∧ cs = [.l ws] ∧ PotD ws B ∧ B < 2 ^ 40 ∧ ∀ ds ws', Row ds → PotD ws' (B + 100) → k (.d (.tuple ds)) [.l ws']
section
variable {P : Program} {w : World} {K : PySem.W.Frag} {mg : Str → Option Value} {base : Heap}
theorem ok_draw (T : Tx K mg) (C : Addr) : FnOk P w K mg base CX0 1 T.draw.a T.draw.fd ["jar", "many"] (spA K C ApDraw) := by
  refine T.draw.F.ok sc_draw (fun vs H Q E h => spA_len (l := 2) (fun xs cs k ⟨_, _, _, h, _⟩ => by rw [h]; rfl) h) (fun cdv A outer s H vs Q E hr h => ?_)
  obtain ⟨F, as, cs, xs, k, wd, ar, ⟨ws, many, B, rfl, rfl, ⟨w0, w1, w2, rfl, h10, h11, h20, h21⟩, hB, hm0, hm1, hk⟩, q⟩ := h
  refine ⟨_, (pss_cons (ps_if (pt_cmpR op_gt (pe_ix (ix_listK K) (pv 0) pe_int (fun _ _ => rfl)) pe_int (nomark _))
  (pss_cons (ps_set (i := 2) sc_draw.nd rfl (Or.inl rfl) (pe_op op_mod (pe_callTy call_int1 (by rfl) T.b_int (by decide +kernel) (pa_cons (pe_ix (ix_listK K) (pv 0) pe_int (fun _ _ => rfl)) pa_nil)) (pv 1)))
  (pss_cons (ps_asg (pe_op op_fdivW (pe_ix (ix_listK K) (pv 0) pe_int (fun _ _ => rfl)) (pv 1)) (pg_sub (pv 0) pe_int set_list))
  (pss_one (ps_ret (pv 2)))))
  pss_nil)
  (pss_cons (ps_asg (pe_op op_add (pe_ix (ix_listK K) (pv 0) pe_int (fun _ _ => rfl)) pe_int) (pg_sub (pv 0) pe_int set_list))
  (pss_cons (ps_set (i := 3) sc_draw.nd rfl (Or.inl rfl) (pe_op op_mod (pe_callTy call_int1 (by rfl) T.b_int (by decide +kernel) (pa_cons (pe_op op_add (pe_op op_powW (pe_op op_add (pe_ix (ix_listK K) (pv 0) pe_int (fun _ _ => rfl)) (pe_op op_mul pe_int (pe_ix (ix_listK K) (pv 0) pe_int (fun _ _ => rfl)))) pe_int) (pe_op op_mul pe_int (pe_ix (ix_listK K) (pv 0) pe_int (fun _ _ => rfl)))) pa_nil)) (pe_op op_add (pe_op op_powW pe_int pe_int) pe_int)))
  (pss_cons (ps_set (i := 3) sc_draw.nd rfl (Or.inl rfl) (pe_op op_mod (pe_callTy call_int1 (by rfl) T.b_int (by decide +kernel) (pa_cons (pe_op op_powW (pe_op op_add (pv 3) (pe_op op_mul pe_int (pe_ix (ix_listK K) (pv 0) pe_int (fun _ _ => rfl)))) pe_int) pa_nil)) (pe_op op_add (pe_op op_powW pe_int pe_int) pe_int)))
  (pss_one (ps_ret (pe_op op_mod (pe_callTy call_int1 (by rfl) T.b_int (by decide +kernel) (pa_cons (pe_op op_fdivW (pv 3) (pe_op op_powW pe_int pe_int)) pa_nil)) (pv 1)))))))), ?_⟩
  refine body_go [some (.cel 0), some (.d (.int many)), none, none] (n := 1) rfl rfl wd ar ?_ q
  walk_at "a"
  refine iteB (fun c => ?_) (fun c => ?_)
  · have c := of_decide_eq_true c
    walk_at "a"
    refine o_intC hm0 ?_
    walk_at "a"
    refine o_intC (wide_div hm0 (b := 200) (by omega) (by decide) (by decide)) ?_
    walk_at "a"
    exact Rt.here (hk _ _ (Int.emod_nonneg _ (by omega)) (Int.emod_lt_of_pos _ hm0) ⟨_, _, _, rfl, h10, h11, h20, by omega⟩) (Nat.le_of_ble_eq_true rfl) rfl rfl
  · walk_at "a"
    have b1 : CPowW (w1 + 15485867 * (w2 + 1)) 4 := powW (a := 201) (by omega) (by decide) (by decide) (by decide)
    refine o_intC (.inl (by decide)) ?_
    walk_at "a"
    refine o_intC b1 ?_
    walk_at "a"
    refine o_intC (.inl (by decide)) ?_
    walk_at "a"
    refine o_intC ⟨by decide, by decide⟩ ?_
    walk_at "a"
    refine o_intC (by show (0 : Int) < 10 ^ 42 + 63; decide) ?_
    have m0 : 0 ≤ ((w1 + 15485867 * (w2 + 1)) ^ (4 : Int).toNat + 3 * (w2 + 1)) % (10 ^ (42 : Int).toNat + 63) := Int.emod_nonneg _ (by decide)
    have m1 : ((w1 + 15485867 * (w2 + 1)) ^ (4 : Int).toNat + 3 * (w2 + 1)) % (10 ^ (42 : Int).toNat + 63) < 10 ^ 43 := Int.lt_of_lt_of_le (Int.emod_lt_of_pos _ (by decide)) (by decide)
    generalize ((w1 + 15485867 * (w2 + 1)) ^ (4 : Int).toNat + 3 * (w2 + 1)) % (10 ^ (42 : Int).toNat + 63) = M at m0 m1
    walk_at "a"
    have b2 : CPowW (M + 32452867 * (w2 + 1)) 3 := powW (a := 201) (by omega) (by decide) (by decide) (by decide)
    refine o_intC (.inl (by decide)) ?_
    walk_at "a"
    refine o_intC b2 ?_
    walk_at "a"
    refine o_intC ⟨by decide, by decide⟩ ?_
    walk_at "a"
    refine o_intC (by show (0 : Int) < 10 ^ 40 + 121; decide) ?_
    generalize (M + 32452867 * (w2 + 1)) ^ (3 : Int).toNat % (10 ^ (40 : Int).toNat + 121) = N
    walk_at "a"
    refine o_intC ⟨by decide, by decide⟩ ?_
    walk_at "a"
    refine o_intC (wide_div (b := 200) (by decide) (by decide) (by decide) (by decide)) ?_
    walk_at "a"
    refine o_intC hm0 ?_
    exact Rt.here (hk _ _ (Int.emod_nonneg _ (by omega)) (Int.emod_lt_of_pos _ hm0) ⟨_, _, _, rfl, h10, h11, by omega, by omega⟩) (Nat.le_of_ble_eq_true rfl) rfl rfl
theorem ok_jar (T : Tx K mg) (C : Addr) : FnOk P w K mg base CX0 1 T.jar.a T.jar.fd ["script", "k"] (spA K C ApJar) := by
  refine T.jar.F.ok sc_jar (fun vs H Q E h => spA_len (l := 2) (fun xs cs k ⟨_, _, h, _⟩ => by rw [h]; rfl) h) (fun cdv A outer s H vs Q E hr h => ?_)
  obtain ⟨F, as, cs, xs, k, wd, ar, ⟨ns, i, rfl, rfl, hl, hi0, hi1, hk⟩, q⟩ := h
  refine ⟨_, (C8.pss_cut (ps_set (i := 2) sc_jar.nd rfl (Or.inl rfl) (pe_ifExp (pt_cmpR op_lt (pv 1) (pe_callB (call_lenK K) (by rfl) T.b_len (by decide +kernel) (pa_cons (pv 0) pa_nil)) (nomark _)) (pe_callB call_abs (by rfl) T.b_abs (by decide +kernel) (pa_cons (pe_callTy call_int1 (by rfl) T.b_int (by decide +kernel) (pa_cons (pe_ix (ix_listK K) (pv 0) (pv 1) (fun _ _ => rfl)) pa_nil)) pa_nil)) pe_int))
  (pss_one (ps_ret (pe_lst (pa_cons (pe_callB (call_max2 rfl) (by rfl) T.b_max (by decide +kernel) (pa_cons pe_int (pa_cons (pe_op op_sub (pv 2) (pe_op op_powW pe_int pe_int)) pa_nil))) (pa_cons (pe_op op_add (pe_op op_mod (pe_callTy call_int1 (by rfl) T.b_int (by decide +kernel) (pa_cons (pv 2) pa_nil)) (pe_op op_add (pe_op op_powW pe_int pe_int) pe_int)) (pe_op op_mul pe_int (pv 1))) (pa_cons pe_int pa_nil))))))), ?_⟩
  refine body_go [some (.d (.list (ns.map PyData.int))), some (.d (.int i)), none] (n := 0) rfl rfl wd ar ?_ q
  walk_at "a"
  refine ex_mid (fun E' cs' => cs' = [] ∧ ∃ c : Int, E' = [some (.d (.list (ns.map PyData.int))), some (.d (.int i)), some (.d (.int c))]) ?_ ?_
  · walk_at "a"
    refine iteB (fun c => ?_) (fun c => ?_)
    · have c := of_decide_eq_true c
      rw [List.length_map] at c
      obtain ⟨j, rfl⟩ : ∃ j : Nat, i = (j : Int) := ⟨i.toNat, by omega⟩
      have hj : j < ns.length := by omega
      walk_at "a"
      refine o_ixL (by rfl) (atI_nat (by rw [List.getElem?_map, List.getElem?_eq_getElem hj]; rfl)) ?_
      walk_at "a"
      exact ⟨rfl, _, rfl⟩
    · walk_at "a"
      exact ⟨rfl, _, rfl⟩
  · rintro E' cs' ⟨rfl, c, rfl⟩
    walk_at "a"
    refine ev_lstD ?_
    walk_at "a"
    refine o_intC ⟨by decide, by decide⟩ ?_
    walk_at "a"
    refine o_intC ⟨by decide, by decide⟩ ?_
    walk_at "a"
    refine o_intC (by show (0 : Int) < 10 ^ 36 + 67; decide) ?_
    walk_at "a"
    refine o_intC (.inl (by decide)) ?_
    walk_at "a"
    show Rt 0 k _ _
    refine Rt.here ?_ (Nat.zero_le _) rfl rfl
    refine hk _ ⟨_, _, _, rfl, ?_, ?_, Int.le_refl 0, Int.le_refl 0⟩
    · have := Int.emod_nonneg c (show (1000000000000000000000000000000000067 : Int) ≠ 0 by decide); show 0 ≤ c % 1000000000000000000000000000000000067 + 1299709 * i; omega
    · have := Int.emod_lt_of_pos c (show (0 : Int) < 1000000000000000000000000000000000067 by decide)
      show c % 1000000000000000000000000000000000067 + 1299709 * i < 2 ^ 200
      omega
end
/-- a call with one list cell and data -/
theorem ev_call1 {K : PySem.W.Frag} {C : Addr} {E : AEnv} {cs : List Cell} {tas : TA} {k : AV → List Cell → Prop} {X : XK} {A : ASp} (h : Evs K C E cs tas fun xs cs1 => ∃ (i : Nat) (ws ds : List PyData), xs = .cel i :: ds.map AV.d ∧ cs1[i]? = some (.l ws) ∧
      A (.cel 0 :: ds.map AV.d) [.l ws] fun y cz' => k (y.ren (rho [i] cs1.length)) (putC cs1 [i] (cz'.map (Cell.ren (rho [i] cs1.length))))) : Ev K C E cs (tCall (spA K C A) [] X tas) k := ev_call fun F as H σ Q w e z => h F as H σ Q w e fun xs cs1 v F' as' H' ⟨i, ws, ds, hx, hc, hA⟩ => z xs cs1 v F' as' H' ⟨[i], .cel 0 :: ds.map AV.d, [.l ws],
    ⟨by simp, fun j hj => by rw [List.mem_singleton.mp hj]; exact (List.getElem?_eq_some_iff.mp hc).1, by
      rw [hx]
      show AV.cel i :: AV.renAll _ _ = _
      rw [renAll_map, List.map_map]; rfl, by
      show (AV.lt 1 (.cel 0) && AV.ltAll 1 (ds.map AV.d)) = true
      clear hx hA
      have : ∀ ds : List PyData, AV.ltAll 1 (ds.map AV.d) = true := fun ds => by
        induction ds with
        | nil => rfl
        | cons d ds ih => simpa [AV.ltAll, AV.lt] using ih
      rw [this]; rfl, by simp [hc, Cell.ren], rfl⟩, hA⟩
theorem ev_jar {K : PySem.W.Frag} {C : Addr} {E : AEnv} {cs : List Cell} {tas : TA} {k : AV → List Cell → Prop} {X : XK} (h : Evs K C E cs tas fun xs cs1 => ∃ (ns : List Int) (i : Int), xs = [.d (.list (ns.map PyData.int)), .d (.int i)] ∧ ns.length ≤ 63 ∧ 0 ≤ i ∧ i ≤ 1000 ∧ ∀ ws, PotD ws 0 → k (.cel cs1.length) (cs1 ++ [.l ws])) : Ev K C E cs (tCall (spA K C ApJar) [] X tas) k := ev_callD fun F as H σ Q w e z => h F as H σ Q w e fun xs cs1 v F' as' H' ⟨ns, i, hx, h1, h2, h3, hk⟩ => z xs cs1 v F' as' H' ⟨[.list (ns.map .int), .int i], by rw [hx]; rfl, ns, i, rfl, rfl, h1, h2, h3, hk⟩
theorem ev_draw {K : PySem.W.Frag} {C : Addr} {E : AEnv} {cs : List Cell} {tas : TA} {k : AV → List Cell → Prop} {X : XK} (h : Evs K C E cs tas fun xs cs1 => ∃ (i : Nat) (many : Int) (ws : List PyData) (B : Int), xs = [.cel i, .d (.int many)] ∧ cs1[i]? = some (.l ws) ∧ PotD ws B ∧ B < 2 ^ 60 ∧ 0 < many ∧ many < 2 ^ 200 ∧
      ∀ (r : Int) ws', 0 ≤ r → r < many → PotD ws' (B + 1) → k (.d (.int r)) (cs1.set i (.l ws'))) : Ev K C E cs (tCall (spA K C ApDraw) [] X tas) k := ev_call1 fun F as H σ Q w e z => h F as H σ Q w e fun xs cs1 v F' as' H' ⟨i, many, ws, B, hx, hc, hp, hB, h0, h1, hk⟩ => z xs cs1 v F' as' H' ⟨i, ws, [.int many], hx, hc, ws, many, B, rfl, rfl, hp, hB, h0, h1, fun r ws' r0 r1 hp' => by
      have := hk r ws' r0 r1 hp'
      show k (.d (.int r)) (putC cs1 [i] [.l ws'])
      simp only [putC, List.append_nil]
      exact this⟩
theorem ev_num {Pn : PyData → Bool} {K : PySem.W.Frag} {C : Addr} {E : AEnv} {cs : List Cell} {tas : TA} {k : AV → List Cell → Prop} {X : XK} (h : Evs K C E cs tas fun xs cs1 => ∃ (i : Nat) (ws : List PyData) (B : Int), xs = [.cel i] ∧ cs1[i]? = some (.l ws) ∧ PotD ws B ∧ B < 2 ^ 50 ∧
      ∀ (r : Int) ws', Pn (.int r) = true → PotD ws' (B + 5) → k (.d (.int r)) (cs1.set i (.l ws'))) : Ev K C E cs (tCall (spA K C (ApNum Pn)) [] X tas) k := ev_call1 fun F as H σ Q w e z => h F as H σ Q w e fun xs cs1 v F' as' H' ⟨i, ws, B, hx, hc, hp, hB, hk⟩ => z xs cs1 v F' as' H' ⟨i, ws, [], hx, hc, ws, B, rfl, rfl, hp, hB, fun r ws' r0 hp' => by
      have := hk r ws' r0 hp'
      show k (.d (.int r)) (putC cs1 [i] [.l ws'])
      simp only [putC, List.append_nil]
      exact this⟩
def STEP14 : List PyData := [.tuple [.str "make", .str "all"], .tuple [.str "make", .str "standing"], .tuple [.str "drop"], .tuple [.str "start", .str "new"], .tuple [.str "start", .str "all"], .tuple [.str "start", .str "free"], .tuple [.str "label", .str "new"], .tuple [.str "label", .str "all"], .tuple [.str "label", .str "free"], .tuple [.str "tie", .str "new"], .tuple [.str "tie", .str "all"], .tuple [.str "tie", .str "free"], .tuple [.str "make", .str "all"], .tuple [.str "drop"]]
theorem s14 : ∀ d ∈ STEP14, d ∈ STEPSD := by
  intro d hd
  simp only [STEP14, List.mem_cons, List.not_mem_nil, or_false] at hd
  rcases hd with rfl | rfl | rfl | rfl | rfl | rfl | rfl | rfl | rfl | rfl | rfl | rfl | rfl | rfl <;> simp [STEPSD]
theorem step1_of {D : List PyData} (hD : ∀ d ∈ D, d ∈ STEPSD) (hl : D.length = 14) {r : Int} (r0 : 0 ≤ r) (r1 : r < 14) : ∃ d, atI D r = some d ∧ d ∈ STEPSD := by
  obtain ⟨n, rfl⟩ : ∃ n : Nat, r = (n : Int) := ⟨r.toNat, by omega⟩
  have hn : n < D.length := by omega
  exact ⟨D[n], by rw [atI_nat (List.getElem?_eq_getElem hn)], hD _ (List.getElem_mem hn)⟩
section
variable {P : Program} {w : World} {K : PySem.W.Frag} {mg : Str → Option Value} {base : Heap}
theorem ok_any_step (T : Tx K mg) (C : Addr) : FnOk P w K mg base CX0 2 T.any_step.a T.any_step.fd ["jar"] (spA K C ApStep1) := by
  have G_draw := ok_draw (P := P) (w := w) (base := base) T C
  refine T.any_step.F.ok sc_any_step (fun vs H Q E h => spA_len (l := 1) (fun xs cs k ⟨_, _, h, _⟩ => by rw [h]; rfl) h) (fun cdv A outer s H vs Q E hr h => ?_)
  obtain ⟨F, as, cs, xs, k, wd, ar, ⟨ws, B, rfl, rfl, hp, hB, hk⟩, q⟩ := h
  refine ⟨_, (pss_cons (ps_set (i := 1) sc_any_step.nd rfl (Or.inl rfl) (pe_lst (pa_cons (pe_tup (pa_cons pe_str (pa_cons pe_str pa_nil))) (pa_cons (pe_tup (pa_cons pe_str (pa_cons pe_str pa_nil))) (pa_cons (pe_tup (pa_cons pe_str pa_nil)) (pa_cons (pe_tup (pa_cons pe_str (pa_cons pe_str pa_nil))) (pa_cons (pe_tup (pa_cons pe_str (pa_cons pe_str pa_nil))) (pa_cons (pe_tup (pa_cons pe_str (pa_cons pe_str pa_nil))) pa_nil))))))))
  (pss_cons (ps_set (i := 1) sc_any_step.nd rfl (Or.inl rfl) (pe_op op_cat (pv 1) (pe_lst (pa_cons (pe_tup (pa_cons pe_str (pa_cons pe_str pa_nil))) (pa_cons (pe_tup (pa_cons pe_str (pa_cons pe_str pa_nil))) (pa_cons (pe_tup (pa_cons pe_str (pa_cons pe_str pa_nil))) (pa_cons (pe_tup (pa_cons pe_str (pa_cons pe_str pa_nil))) (pa_cons (pe_tup (pa_cons pe_str (pa_cons pe_str pa_nil))) pa_nil))))))))
  (pss_one (ps_ret (pe_ix (ix_listK K) (pe_op op_cat (pv 1) (pe_lst (pa_cons (pe_tup (pa_cons pe_str (pa_cons pe_str pa_nil))) (pa_cons (pe_tup (pa_cons pe_str (pa_cons pe_str pa_nil))) (pa_cons (pe_tup (pa_cons pe_str pa_nil)) pa_nil))))) (pe_call G_draw (hr.mono (by first | decide | omega)) rfl T.draw.g T.draw.F.kp T.draw.b .nil pass0 (pa_cons (pv 0) (pa_cons pe_int pa_nil))) (fun _ _ => rfl)))))), ?_⟩
  refine body_go [some (.cel 0), none] (n := 1) rfl rfl wd ar ?_ q
  walk_at "a"
  refine ev_lstD ?_
  walk_at "a"
  refine ev_lstD ?_
  walk_at "a"
  refine o_cat rfl rfl (by decide) ?_
  walk_at "a"
  refine ev_lstD ?_
  walk_at "a"
  refine o_cat rfl rfl (by decide) ?_
  walk_at "a"
  refine ev_draw ?_
  walk_at "a"
  refine ⟨0, 14, ws, B, rfl, rfl, hp, by omega, by decide, by decide, fun r ws1 r0 r1 hp1 => ?_⟩
  obtain ⟨d, hd, hm⟩ := step1_of (D := STEP14) s14 rfl r0 r1
  refine o_ixL (by rfl) (d := d) hd ?_
  show Rt 1 k _ _
  exact Rt.cut 1 (hk d ws1 hm hp1) (Nat.le_refl 1) rfl rfl
end
theorem ev_step1 {K : PySem.W.Frag} {C : Addr} {E : AEnv} {cs : List Cell} {tas : TA} {k : AV → List Cell → Prop} {X : XK} (h : Evs K C E cs tas fun xs cs1 => ∃ (i : Nat) (ws : List PyData) (B : Int), xs = [.cel i] ∧ cs1[i]? = some (.l ws) ∧ PotD ws B ∧ B < 2 ^ 50 ∧
      ∀ d ws', d ∈ STEPSD → PotD ws' (B + 1) → k (.d d) (cs1.set i (.l ws'))) : Ev K C E cs (tCall (spA K C ApStep1) [] X tas) k := ev_call1 fun F as H σ Q w e z => h F as H σ Q w e fun xs cs1 v F' as' H' ⟨i, ws, B, hx, hc, hp, hB, hk⟩ => z xs cs1 v F' as' H' ⟨i, ws, [], hx, hc, ws, B, rfl, rfl, hp, hB, fun r ws' r0 hp' => by
      have := hk r ws' r0 hp'
      show k (.d r) (putC cs1 [i] [.l ws'])
      simp only [putC, List.append_nil]
      exact this⟩
theorem two_at {a b : PyData} {r : Int} (r0 : 0 ≤ r) (r1 : r < 2) : ∃ d, atI [a, b] r = some d ∧ (d = a ∨ d = b) := by
  rcases (by omega : r = 0 ∨ r = 1) with rfl | rfl
  · exact ⟨a, rfl, .inl rfl⟩
  · exact ⟨b, rfl, .inr rfl⟩
theorem ixN_nat {n j : Nat} (h : j < n) : ixN n (j : Int) = some j := by
  have h1 : 0 ≤ (j : Int) := by omega
  unfold ixN
  rw [if_pos h1, if_pos (by omega)]
  simp
theorem cut_mem {α : Type} {ds : List α} {lo hi : Option Int} {d : α} (h : d ∈ cutD ds lo hi) : d ∈ ds := List.mem_of_mem_drop (List.mem_of_mem_take h)
section
variable {P : Program} {w : World} {K : PySem.W.Frag} {mg : Str → Option Value} {base : Heap}
theorem ok_plan (T : Tx K mg) (C : Addr) : FnOk P w K mg base CX0 3 T.plan.a T.plan.fd ["jar"] (spA K C ApPlan) := by
  have G_draw := ok_draw (P := P) (w := w) (base := base) T C
  have G_any_step := ok_any_step (P := P) (w := w) (base := base) T C
  refine T.plan.F.ok sc_plan (fun vs H Q E h => spA_len (l := 1) (fun xs cs k ⟨_, _, h, _⟩ => by rw [h]; rfl) h) (fun cdv A outer s H vs Q E hr h => ?_)
  obtain ⟨F, as, cs, xs, k, wd, ar, ⟨ws, B, rfl, rfl, hp, hB, hk⟩, q⟩ := h
  refine ⟨_, (pss_cons (ps_if (pt_cmpR op_eq (pe_call G_draw (hr.mono (by first | decide | omega)) rfl T.draw.g T.draw.F.kp T.draw.b .nil pass0 (pa_cons (pv 0) (pa_cons pe_int pa_nil))) pe_int (nomark _))
  (pss_one (ps_ret (pe_callTy (call_tupK K) (by rfl) T.b_tuple (by decide +kernel) (pa_cons (pe_lc (own := [("k", 5)]) (g := (gName 5)) (tt := tYes) rfl sc_plan.nd (pi_range1 (by rfl) T.b_range (pa_cons (pe_call G_draw (hr.mono (by first | decide | omega)) rfl T.draw.g T.draw.F.kp T.draw.b .nil pass0 (pa_cons (pv 0) (pa_cons pe_int pa_nil))) pa_nil)) (blkOk_by (N := ["jar", "found", "turn", "spot", "way", "k"]) (sc := defScope s_plan) (by decide +kernel)) (fun _ _ _ _ _ => pg_name (i := 5) sc_plan.nd rfl (Or.inl rfl)) (fun _ _ _ _ _ => pts_nil) (fun _ _ _ _ _ => (pe_call G_any_step (hr.mono (by first | decide | omega)) rfl T.any_step.g T.any_step.F.kp T.any_step.b .nil pass0 (pa_cons (pv 0) pa_nil)))) pa_nil))))
  pss_nil)
  (pss_cons (ps_set (i := 1) sc_plan.nd rfl (Or.inl rfl) (pe_lst (pa_cons (pe_tup (pa_cons pe_str (pa_cons (pe_ix (ix_listK K) (pe_lst (pa_cons pe_str (pa_cons pe_str pa_nil))) (pe_call G_draw (hr.mono (by first | decide | omega)) rfl T.draw.g T.draw.F.kp T.draw.b .nil pass0 (pa_cons (pv 0) (pa_cons pe_int pa_nil))) (fun _ _ => rfl)) pa_nil))) (pa_cons (pe_tup (pa_cons pe_str (pa_cons (pe_ix (ix_listK K) (pe_lst (pa_cons pe_str (pa_cons pe_str pa_nil))) (pe_call G_draw (hr.mono (by first | decide | omega)) rfl T.draw.g T.draw.F.kp T.draw.b .nil pass0 (pa_cons (pv 0) (pa_cons pe_int pa_nil))) (fun _ _ => rfl)) pa_nil))) pa_nil))))
  (pss_cons (ps_set (i := 1) sc_plan.nd rfl (Or.inl rfl) (pe_op op_cat (pv 1) (pe_lst (pa_cons (pe_tup (pa_cons pe_str (pa_cons pe_str pa_nil))) (pa_cons (pe_tup (pa_cons pe_str (pa_cons pe_str pa_nil))) (pa_cons (pe_tup (pa_cons pe_str pa_nil)) pa_nil))))))
  (pss_cons (ps_for PassesOwn.never rfl (pi_range1 (by rfl) T.b_range (pa_cons (pe_callB (call_max2 rfl) (by rfl) T.b_max (by decide +kernel) (pa_cons pe_int (pa_cons (pe_op op_sub (pe_call G_draw (hr.mono (by first | decide | omega)) rfl T.draw.g T.draw.F.kp T.draw.b .nil pass0 (pa_cons (pv 0) (pa_cons pe_int pa_nil))) pe_int) pa_nil))) pa_nil)) (pg_name (i := 2) sc_plan.nd rfl (Or.inl rfl))
  (pss_cons (ps_par (i := 3) (j := 4) rfl sc_plan.nd rfl rfl (by decide) rfl rfl (pa_cons (pe_call G_draw (hr.mono (by first | decide | omega)) rfl T.draw.g T.draw.F.kp T.draw.b .nil pass0 (pa_cons (pv 0) (pa_cons (pe_op op_add (pe_callB (call_lenK K) (by rfl) T.b_len (by decide +kernel) (pa_cons (pv 1) pa_nil)) pe_int) pa_nil))) (pa_cons (pe_call G_draw (hr.mono (by first | decide | omega)) rfl T.draw.g T.draw.F.kp T.draw.b .nil pass0 (pa_cons (pv 0) (pa_cons pe_int pa_nil))) pa_nil)) rfl)
  (pss_one (ps_if (pt_cmpR op_eq (pv 4) pe_int (nomark _))
  (pss_one (ps_set (i := 1) sc_plan.nd rfl (Or.inl rfl) (pe_op op_cat (pe_slice (sl_listK K) (pv 1) po_no (po_some (pv 3))) (pe_slice (sl_listK K) (pv 1) (po_some (pe_op op_add (pv 3) pe_int)) po_no))))
  (pss_one (ps_if (PW.pt (pw_and (pt_cmpR op_eq (pv 4) pe_int (nomark _)) (pw_and1 (pt_cmpR op_lt (pv 3) (pe_callB (call_lenK K) (by rfl) T.b_len (by decide +kernel) (pa_cons (pv 1) pa_nil)) (nomark _)))))
  (pss_one (ps_asg (pe_call G_any_step (hr.mono (by first | decide | omega)) rfl T.any_step.g T.any_step.F.kp T.any_step.b .nil pass0 (pa_cons (pv 0) pa_nil)) (pg_sub (pv 1) (pv 3) set_list)))
  (pss_one (ps_set (i := 1) sc_plan.nd rfl (Or.inl rfl) (pe_op op_cat (pe_op op_cat (pe_slice (sl_listK K) (pv 1) po_no (po_some (pv 3))) (pe_lst (pa_cons (pe_call G_any_step (hr.mono (by first | decide | omega)) rfl T.any_step.g T.any_step.F.kp T.any_step.b .nil pass0 (pa_cons (pv 0) pa_nil)) pa_nil))) (pe_slice (sl_listK K) (pv 1) (po_some (pv 3)) po_no))))))))))
  (pss_one (ps_ret (pe_callTy (call_tupK K) (by rfl) T.b_tuple (by decide +kernel) (pa_cons (pv 1) pa_nil)))))))), ?_⟩
  refine body_go [some (.cel 0), none, none, none, none, none] (n := 1) rfl rfl wd ar ?_ q
  walk_at "a"
  refine ev_draw ?_
  walk_at "a"
  refine ⟨0, 3, ws, B, rfl, rfl, hp, by omega, by decide, by decide, fun r ws1 r0 r1 hp1 => ?_⟩
  walk_at "a"
  refine iteB (fun c => ?_) (fun c => ?_)
  · walk_at "a"
    refine ev_lc 1 (ei_rng1 ?_)
    walk_at "a"
    refine ev_draw ?_
    walk_at "a"
    refine ⟨0, 13, ws1, _, rfl, rfl, hp1, by omega, by decide, by decide, fun m ws2 m0 m1 hp2 => ?_⟩
    walk_at "a"
    refine ⟨by omega, by omega, rfl, by rw [rngA_len]; omega, fun i acc cs' => ∃ ws', cs' = [.l ws'] ∧ PotD ws' (B + 2 + i) ∧ (∀ d ∈ acc, d ∈ STEPSD) ∧ acc.length = i, ⟨ws2, rfl, hp2.mono (by omega), fun d hd => absurd hd List.not_mem_nil, rfl⟩, fun _ _ _ _ => trivial, ?_, ?_⟩
    · rintro i y acc cs' hy ⟨ws3, rfl, hp3, hst, hl⟩
      obtain ⟨hi, rfl⟩ := rngA_get hy
      refine egc_name (by simp) (et_yes ?_)
      show Ev _ _ _ _ _ _
      walk_at "a"
      refine ev_step1 ?_
      walk_at "a"
      refine ⟨0, ws3, _, rfl, rfl, hp3, by omega, fun d ws4 hd hp4 => ?_⟩
      refine ⟨d, rfl, [], 1, rfl, Nat.le_refl 1, rfl, rfl, ws4, rfl, hp4.mono (by omega), fun x hx => ?_, by rw [List.length_append, hl]; rfl⟩
      rcases List.mem_append.mp hx with hx | hx
      · exact hst x hx
      · rw [List.mem_singleton.mp hx]; exact hd
    · rintro acc cs' ⟨ws3, rfl, hp3, hst, hl⟩
      rw [rngA_len] at hp3 hl
      walk_at "a"
      refine on_tupL (ds := acc) rfl ?_
      show Rt 1 k _ _
      exact Rt.cut 1 (hk acc ws3 ⟨hst, by omega⟩ (hp3.mono (by omega))) (Nat.le_refl 1) rfl rfl
  · walk_at "a"
    refine ev_lstD ?_
    walk_at "a"
    refine ev_lstD ?_
    walk_at "a"
    refine ev_draw ?_
    walk_at "a"
    refine ⟨0, 2, ws1, _, rfl, rfl, hp1, by omega, by decide, by decide, fun a ws2 a0 a1 hp2 => ?_⟩
    obtain ⟨da, hda, ca⟩ := two_at (a := .str "all") (b := .str "standing") a0 a1
    refine o_ixL (by rfl) (d := da) hda ?_
    walk_at "a"
    refine ev_lstD ?_
    walk_at "a"
    refine ev_draw ?_
    walk_at "a"
    refine ⟨0, 2, ws2, _, rfl, rfl, hp2, by omega, by decide, by decide, fun b ws3 b0 b1 hp3 => ?_⟩
    obtain ⟨db, hdb, cb⟩ := two_at (a := .str "all") (b := .str "free") b0 b1
    refine o_ixL (by rfl) (d := db) hdb ?_
    walk_at "a"
    refine ev_lstD ?_
    walk_at "a"
    refine o_cat rfl rfl (Nat.le_of_ble_eq_true rfl) ?_
    walk_at "a"
    refine ex_for 1 (Nat.le_refl 1) (ei_rng1 ?_)
    walk_at "a"
    refine ev_draw ?_
    walk_at "a"
    refine ⟨0, 5, ws3, _, rfl, rfl, hp3, by omega, by decide, by decide, fun n ws4 n0 n1 hp4 => ?_⟩
    walk_at "a"
    have hmm : 0 ≤ (if n - 2 > 0 then n - 2 else 0) ∧ (if n - 2 > 0 then n - 2 else 0) ≤ 2 := by split <;> omega
    generalize (if n - 2 > 0 then n - 2 else 0) = m at hmm
    have hst0 : ∀ d ∈ [PyData.tuple [.str "make", da], .tuple [.str "start", db], .tuple [.str "label", .str "free"], .tuple [.str "tie", .str "free"], .tuple [.str "drop"]], d ∈ STEPSD := by
      intro d hd
      simp only [List.mem_cons, List.not_mem_nil, or_false] at hd
      rcases ca with rfl | rfl <;> rcases cb with rfl | rfl <;> rcases hd with rfl | rfl | rfl | rfl | rfl <;> simp [STEPSD]
    refine ⟨by omega, by omega, Nat.le_of_ble_eq_true rfl, fun i E' cs' => ∃ x2 x3 x4 ws' ds, E' = [some (.cel 0), some (.cel 5), x2, x3, x4, none] ∧ cs' = [.l ws', .l [.str "all", .str "standing"], .l [.str "all", .str "free"], .l [.tuple [.str "make", da], .tuple [.str "start", db]], .l [.tuple [.str "label", .str "free"], .tuple [.str "tie", .str "free"], .tuple [.str "drop"]], .l ds] ∧ PotD ws' (B + 4 + 4 * i) ∧ (∀ d ∈ ds, d ∈ STEPSD) ∧ ds.length ≤ 5 + i,
      ⟨none, none, none, ws4, _, rfl, rfl, hp4.mono (by omega), hst0, Nat.le_refl 5⟩, fun _ _ _ _ => trivial, ?_, ?_⟩
    · rintro i y E' cs' hy ⟨x2, x3, x4, ws5, ds, rfl, rfl, hp5, hst, hl⟩
      obtain ⟨hi, rfl⟩ := rngA_get hy
      refine eg_name ?_
      walk_at "a"
      refine ev_draw ?_
      walk_at "a"
      refine ⟨0, _, ws5, _, rfl, rfl, hp5, by omega, by omega, by omega, fun z ws6 z0 z1 hp6 => ?_⟩
      walk_at "a"
      refine ev_draw ?_
      walk_at "a"
      refine ⟨0, 4, ws6, _, rfl, rfl, hp6, by omega, by decide, by decide, fun y ws7 y0 y1 hp7 => ?_⟩
      obtain ⟨zn, rfl⟩ : ∃ zn : Nat, z = (zn : Int) := ⟨z.toNat, by omega⟩
      walk_at "a"
      refine iteB (fun c => ?_) (fun c => ?_)
      · walk_at "a"
        refine os_lst (ds := ds) rfl ?_
        walk_at "a"
        refine os_lst (ds := ds) rfl ?_
        have l1 := cutD_len (xs := ds) (lo := none) (hi := some (zn : Int))
        have l2 := cutD_len (xs := ds) (lo := some ((zn : Int) + 1)) (hi := none)
        refine o_cat rfl rfl (by omega) ?_
        refine Cm.sel [0, 1, 2, 3, 4, 8] (E1 := [some (.cel 0), some (.cel 5), none, none, none, none]) (cs1 := [.l ws7, .l [.str "all", .str "standing"], .l [.str "all", .str "free"], .l [.tuple [.str "make", da], .tuple [.str "start", db]], .l [.tuple [.str "label", .str "free"], .tuple [.str "tie", .str "free"], .tuple [.str "drop"]], .l (cutD ds none (some (zn : Int)) ++ cutD ds (some ((zn : Int) + 1)) none)]) ⟨by decide, rfl, ⟨rfl, rfl, rfl, rfl, trivial⟩, rfl, rfl⟩ ?_
        refine ⟨none, none, none, ws7, _, rfl, rfl, hp7.mono (by omega), fun d hd => ?_, ?_⟩
        · rcases List.mem_append.mp hd with hd | hd
          · exact hst d (cut_mem hd)
          · exact hst d (cut_mem hd)
        · rw [List.length_append, cutD_to, show ((zn : Int) + 1) = ((zn + 1 : Nat) : Int) by omega, cutD_from, List.length_take, List.length_drop]; omega
      · walk_at "a"
        refine iteB (fun c1 => ?_) (fun c1 => ?_)
        · walk_at "a"
          refine iteB (fun c2 => ?_) (fun c2 => ?_)
          · have c2 := of_decide_eq_true c2
            walk_at "a"
            refine ev_step1 ?_
            walk_at "a"
            refine ⟨0, ws7, _, rfl, rfl, hp7, by omega, fun d ws8 hd hp8 => ?_⟩
            walk_at "a"
            have hz : zn < ds.length := by omega
            refine isSub (i := 5) (j := zn) rfl (ixN_nat hz) ?_
            refine Cm.here ⟨_, _, _, ws8, _, rfl, rfl, hp8.mono (by omega), fun x hx => ?_, by rw [List.length_set]; omega⟩
            rcases List.mem_or_eq_of_mem_set hx with hx | hx
            · exact hst x hx
            · rw [hx]; exact hd
          · walk_at "a"
            refine os_lst (ds := ds) rfl ?_
            walk_at "a"
            refine ev_lstD ?_
            walk_at "a"
            refine ev_step1 ?_
            walk_at "a"
            refine ⟨0, ws7, _, rfl, rfl, hp7, by omega, fun d ws8 hd hp8 => ?_⟩
            walk_at "a"
            have l1 := cutD_len (xs := ds) (lo := none) (hi := some (zn : Int))
            refine o_cat rfl rfl (show (cutD ds none (some (zn : Int))).length + 1 ≤ _ by omega) ?_
            walk_at "a"
            refine os_lst (ds := ds) rfl ?_
            have l2 := cutD_len (xs := ds) (lo := some (zn : Int)) (hi := none)
            refine o_cat (ds := cutD ds none (some (zn : Int)) ++ [d]) rfl rfl (by rw [List.length_append, List.length_singleton]; omega) ?_
            refine Cm.sel [0, 1, 2, 3, 4, 10] (E1 := [some (.cel 0), some (.cel 5), none, none, none, none]) (cs1 := [.l ws8, .l [.str "all", .str "standing"], .l [.str "all", .str "free"], .l [.tuple [.str "make", da], .tuple [.str "start", db]], .l [.tuple [.str "label", .str "free"], .tuple [.str "tie", .str "free"], .tuple [.str "drop"]], .l (cutD ds none (some (zn : Int)) ++ [d] ++ cutD ds (some (zn : Int)) none)]) ⟨by decide, rfl, ⟨rfl, rfl, rfl, rfl, trivial⟩, rfl, rfl⟩ ?_
            refine ⟨none, none, none, ws8, _, rfl, rfl, hp8.mono (by omega), fun x hx => ?_, ?_⟩
            · rcases List.mem_append.mp hx with hx | hx
              · rcases List.mem_append.mp hx with hx | hx
                · exact hst x (cut_mem hx)
                · rw [List.mem_singleton.mp hx]; exact hd
              · exact hst x (cut_mem hx)
            · rw [List.length_append, List.length_append, cutD_to, cutD_from, List.length_take, List.length_drop, List.length_singleton]; omega
        · walk_at "a"
          refine os_lst (ds := ds) rfl ?_
          walk_at "a"
          refine ev_lstD ?_
          walk_at "a"
          refine ev_step1 ?_
          walk_at "a"
          refine ⟨0, ws7, _, rfl, rfl, hp7, by omega, fun d ws8 hd hp8 => ?_⟩
          walk_at "a"
          have l1 := cutD_len (xs := ds) (lo := none) (hi := some (zn : Int))
          refine o_cat rfl rfl (show (cutD ds none (some (zn : Int))).length + 1 ≤ _ by omega) ?_
          walk_at "a"
          refine os_lst (ds := ds) rfl ?_
          have l2 := cutD_len (xs := ds) (lo := some (zn : Int)) (hi := none)
          refine o_cat (ds := cutD ds none (some (zn : Int)) ++ [d]) rfl rfl (by rw [List.length_append, List.length_singleton]; omega) ?_
          refine Cm.sel [0, 1, 2, 3, 4, 10] (E1 := [some (.cel 0), some (.cel 5), none, none, none, none]) (cs1 := [.l ws8, .l [.str "all", .str "standing"], .l [.str "all", .str "free"], .l [.tuple [.str "make", da], .tuple [.str "start", db]], .l [.tuple [.str "label", .str "free"], .tuple [.str "tie", .str "free"], .tuple [.str "drop"]], .l (cutD ds none (some (zn : Int)) ++ [d] ++ cutD ds (some (zn : Int)) none)]) ⟨by decide, rfl, ⟨rfl, rfl, rfl, rfl, trivial⟩, rfl, rfl⟩ ?_
          refine ⟨none, none, none, ws8, _, rfl, rfl, hp8.mono (by omega), fun x hx => ?_, ?_⟩
          · rcases List.mem_append.mp hx with hx | hx
            · rcases List.mem_append.mp hx with hx | hx
              · exact hst x (cut_mem hx)
              · rw [List.mem_singleton.mp hx]; exact hd
            · exact hst x (cut_mem hx)
          · rw [List.length_append, List.length_append, cutD_to, cutD_from, List.length_take, List.length_drop, List.length_singleton]; omega
    · rintro E' cs' ⟨x2, x3, x4, ws5, ds, rfl, rfl, hp5, hst, hl⟩
      rw [rngA_len] at hp5 hl
      walk_at "a"
      refine on_tupL (ds := ds) rfl ?_
      show Rt 1 k _ _
      exact Rt.cut 1 (hk ds ws5 ⟨hst, by omega⟩ (hp5.mono (by omega))) (Nat.le_refl 1) rfl rfl
theorem ok_act (T : Tx K mg) (C : Addr) : FnOk P w K mg base CX0 2 T.act.a T.act.fd ["jar"] (spA K C ApAct) := by
  have G_draw := ok_draw (P := P) (w := w) (base := base) T C
  refine T.act.F.ok sc_act (fun vs H Q E h => spA_len (l := 1) (fun xs cs k ⟨_, _, h, _⟩ => by rw [h]; rfl) h) (fun cdv A outer s H vs Q E hr h => ?_)
  obtain ⟨F, as, cs, xs, k, wd, ar, ⟨ws, B, rfl, rfl, hp, hB, hk⟩, q⟩ := h
  refine ⟨_, (pss_cons (ps_par (i := 1) (j := 2) rfl sc_act.nd rfl rfl (by decide) rfl rfl (pa_cons (pe_call G_draw (hr.mono (by first | decide | omega)) rfl T.draw.g T.draw.F.kp T.draw.b .nil pass0 (pa_cons (pv 0) (pa_cons pe_int pa_nil))) (pa_cons (pe_call G_draw (hr.mono (by first | decide | omega)) rfl T.draw.g T.draw.F.kp T.draw.b .nil pass0 (pa_cons (pv 0) (pa_cons pe_int pa_nil))) pa_nil)) rfl)
  (pss_cons (ps_set (i := 3) sc_act.nd rfl (Or.inl rfl) (pe_lst (pa_cons (pe_tup (pa_cons pe_str (pa_cons (pv 2) (pa_cons (pe_op op_sub (pv 2) pe_int) pa_nil)))) (pa_cons (pe_tup (pa_cons pe_str (pa_cons pe_int (pa_cons (pv 2) pa_nil)))) (pa_cons (pe_tup (pa_cons pe_str (pa_cons pe_int (pa_cons (pv 2) pa_nil)))) (pa_cons (pe_tup (pa_cons pe_str (pa_cons pe_int (pa_cons pe_int pa_nil)))) (pa_cons (pe_tup (pa_cons pe_str (pa_cons pe_int (pa_cons pe_non pa_nil)))) pa_nil)))))))
  (pss_one (ps_ret (pe_ix (ix_listK K) (pe_op op_cat (pv 3) (pe_lst (pa_cons (pe_tup (pa_cons pe_str (pa_cons (pv 2) pa_nil))) (pa_cons (pe_tup (pa_cons pe_str (pa_cons pe_int (pa_cons (pv 2) pa_nil)))) (pa_cons (pe_tup (pa_cons pe_str (pa_cons pe_int (pa_cons pe_int pa_nil)))) (pa_cons (pe_tup (pa_cons pe_str pa_nil)) (pa_cons (pe_tup (pa_cons pe_str pa_nil)) pa_nil))))))) (pv 1) (fun _ _ => rfl)))))), ?_⟩
  refine body_go [some (.cel 0), none, none, none] (n := 1) rfl rfl wd ar ?_ q
  walk_at "a"
  refine ev_draw ?_
  walk_at "a"
  refine ⟨0, 10, ws, B, rfl, rfl, hp, by omega, by decide, by decide, fun r ws1 r0 r1 hp1 => ?_⟩
  walk_at "a"
  refine ev_draw ?_
  walk_at "a"
  refine ⟨0, 5, ws1, _, rfl, rfl, hp1, by omega, by decide, by decide, fun t ws2 t0 t1 hp2 => ?_⟩
  walk_at "a"
  refine ev_lstD ?_
  walk_at "a"
  refine ev_lstD ?_
  walk_at "a"
  refine o_cat rfl rfl (Nat.le_of_ble_eq_true rfl) ?_
  walk_at "a"
  rcases (by omega : r = 0 ∨ r = 1 ∨ r = 2 ∨ r = 3 ∨ r = 4 ∨ r = 5 ∨ r = 6 ∨ r = 7 ∨ r = 8 ∨ r = 9) with rfl | rfl | rfl | rfl | rfl | rfl | rfl | rfl | rfl | rfl
  · exact o_ixL (by rfl) (d := dD (.add t (t - 2))) rfl (show Rt 1 k _ _ from Rt.cut 1 (hk (.add t (t - 2)) ws2 ⟨t, t0, t1, by simp [ActD]⟩ (hp2.mono (by omega))) (Nat.le_refl 1) rfl rfl)
  · exact o_ixL (by rfl) (d := dD (.label 1 t)) rfl (show Rt 1 k _ _ from Rt.cut 1 (hk (.label 1 t) ws2 ⟨t, t0, t1, by simp [ActD]⟩ (hp2.mono (by omega))) (Nat.le_refl 1) rfl rfl)
  · exact o_ixL (by rfl) (d := dD (.moves 1 t)) rfl (show Rt 1 k _ _ from Rt.cut 1 (hk (.moves 1 t) ws2 ⟨t, t0, t1, by simp [ActD]⟩ (hp2.mono (by omega))) (Nat.le_refl 1) rfl rfl)
  · exact o_ixL (by rfl) (d := dD (.tie 1 (some 1))) rfl (show Rt 1 k _ _ from Rt.cut 1 (hk (.tie 1 (some 1)) ws2 ⟨t, t0, t1, by simp [ActD]⟩ (hp2.mono (by omega))) (Nat.le_refl 1) rfl rfl)
  · exact o_ixL (by rfl) (d := dD (.tie 1 none)) rfl (show Rt 1 k _ _ from Rt.cut 1 (hk (.tie 1 none) ws2 ⟨t, t0, t1, by simp [ActD]⟩ (hp2.mono (by omega))) (Nat.le_refl 1) rfl rfl)
  · exact o_ixL (by rfl) (d := dD (.own t)) rfl (show Rt 1 k _ _ from Rt.cut 1 (hk (.own t) ws2 ⟨t, t0, t1, by simp [ActD]⟩ (hp2.mono (by omega))) (Nat.le_refl 1) rfl rfl)
  · exact o_ixL (by rfl) (d := dD (.wlabel 1 t)) rfl (show Rt 1 k _ _ from Rt.cut 1 (hk (.wlabel 1 t) ws2 ⟨t, t0, t1, by simp [ActD]⟩ (hp2.mono (by omega))) (Nat.le_refl 1) rfl rfl)
  · exact o_ixL (by rfl) (d := dD (.wtie 1 (some 1))) rfl (show Rt 1 k _ _ from Rt.cut 1 (hk (.wtie 1 (some 1)) ws2 ⟨t, t0, t1, by simp [ActD]⟩ (hp2.mono (by omega))) (Nat.le_refl 1) rfl rfl)
  · exact o_ixL (by rfl) (d := dD .run) rfl (show Rt 1 k _ _ from Rt.cut 1 (hk .run ws2 ⟨t, t0, t1, by simp [ActD]⟩ (hp2.mono (by omega))) (Nat.le_refl 1) rfl rfl)
  · exact o_ixL (by rfl) (d := dD .run) rfl (show Rt 1 k _ _ from Rt.cut 1 (hk .run ws2 ⟨t, t0, t1, by simp [ActD]⟩ (hp2.mono (by omega))) (Nat.le_refl 1) rfl rfl)
end
theorem ev_plan {K : PySem.W.Frag} {C : Addr} {E : AEnv} {cs : List Cell} {tas : TA} {k : AV → List Cell → Prop} {X : XK} (h : Evs K C E cs tas fun xs cs1 => ∃ (i : Nat) (ws : List PyData) (B : Int), xs = [.cel i] ∧ cs1[i]? = some (.l ws) ∧ PotD ws B ∧ B < 2 ^ 40 ∧
      ∀ ds ws', Row ds → PotD ws' (B + 100) → k (.d (.tuple ds)) (cs1.set i (.l ws'))) : Ev K C E cs (tCall (spA K C ApPlan) [] X tas) k := ev_call1 fun F as H σ Q w e z => h F as H σ Q w e fun xs cs1 v F' as' H' ⟨i, ws, B, hx, hc, hp, hB, hk⟩ => z xs cs1 v F' as' H' ⟨i, ws, [], hx, hc, ws, B, rfl, rfl, hp, hB, fun r ws' r0 hp' => by
      have := hk r ws' r0 hp'
      show k (.d (.tuple r)) (putC cs1 [i] [.l ws'])
      simp only [putC, List.append_nil]
      exact this⟩
theorem ev_act {K : PySem.W.Frag} {C : Addr} {E : AEnv} {cs : List Cell} {tas : TA} {k : AV → List Cell → Prop} {X : XK} (h : Evs K C E cs tas fun xs cs1 => ∃ (i : Nat) (ws : List PyData) (B : Int), xs = [.cel i] ∧ cs1[i]? = some (.l ws) ∧ PotD ws B ∧ B < 2 ^ 40 ∧
      ∀ e ws', (∃ t, 0 ≤ t ∧ t < 5 ∧ ActD t e) → PotD ws' (B + 2) → k (.d (dD e)) (cs1.set i (.l ws'))) : Ev K C E cs (tCall (spA K C ApAct) [] X tas) k := ev_call1 fun F as H σ Q w e z => h F as H σ Q w e fun xs cs1 v F' as' H' ⟨i, ws, B, hx, hc, hp, hB, hk⟩ => z xs cs1 v F' as' H' ⟨i, ws, [], hx, hc, ws, B, rfl, rfl, hp, hB, fun r ws' r0 hp' => by
      have := hk r ws' r0 hp'
      show k (.d (dD r)) (putC cs1 [i] [.l ws'])
      simp only [putC, List.append_nil]
      exact this⟩
end Y

/-! # ledgers without own lines and drops -/
namespace M
open PySem L2
structure Mk (L : Led) : Prop where
  wf : WF L L.elder.length
  ev : L.ever = (L.later.length : Int)
theorem Mk.init : Mk Led.init := ⟨WF.init, rfl⟩
theorem Mk.add {L : Led} (h : Mk L) (l a : Int) : Mk (addM L l a) := by
  have hl : (addM L l a).elder.length = L.elder.length + 1 := by simp [addM]
  refine ⟨?_, h.ev⟩
  rw [hl]
  exact ⟨h.wf.num, h.wf.lo, h.wf.ev, fun s hs => by have := h.wf.src s hs; rw [hl]; omega, h.wf.nd, by have := h.wf.sz; rw [hl]; show L.elder.length + 1 + owns L.later ≤ _; omega, fun n hn => Nat.le_trans (h.wf.ty n hn) (Nat.le_succ _)⟩
theorem Mk.set {L : Led} (h : Mk L) (n : Int) (f : OL → OL) : Mk (setOld L n f) := by
  have hl : (setOld L n f).elder.length = L.elder.length := by simp [setOld]
  refine ⟨?_, h.ev⟩
  rw [hl]
  exact ⟨h.wf.num, h.wf.lo, h.wf.ev, fun s hs => by have := h.wf.src s hs; rw [hl]; omega, h.wf.nd, by have := h.wf.sz; rw [hl]; exact this, h.wf.ty⟩
theorem Mk.run {L : Led} (h : Mk L) (ah : List (Int × Int × Option Int)) (fr : List Int) : Mk { L with ahead := ah, fresh := fr } := ⟨⟨h.wf.num, h.wf.lo, h.wf.ev, h.wf.src, h.wf.nd, h.wf.sz, h.wf.ty⟩, h.ev⟩
theorem makeTurn_mono {there : List Int} {all : Bool} {L : Led} {i : Nat} {o : OL} {s : Int} (h : s ∈ srcs L.later) : s ∈ srcs (makeTurn there all L i o).later := by
  unfold makeTurn
  split
  · show s ∈ srcs (L.later ++ [_])
    simp only [srcs, List.filterMap_append, List.mem_append] at h ⊢
    exact .inl h
  · exact h
theorem makeGo_mono {there : List Int} {all : Bool} {s : Int} : ∀ {os : List OL} {k : Nat} {L : Led}, s ∈ srcs L.later → s ∈ srcs (makeGo there all k os L).later
  | [], _, _, h => h
  | o :: os, k, L, h => makeGo_mono (os := os) (makeTurn_mono h)
theorem makeTurn_ev {there : List Int} {all : Bool} {L : Led} {i : Nat} {o : OL} (h : L.ever = (L.later.length : Int)) : (makeTurn there all L i o).ever = ((makeTurn there all L i o).later.length : Int) := by
  unfold makeTurn
  split
  · show L.ever + 1 = ((L.later ++ [_]).length : Int)
    rw [List.length_append, h]; rfl
  · exact h
theorem makeGo_ev {there : List Int} {all : Bool} : ∀ {os : List OL} {k : Nat} {L : Led}, L.ever = (L.later.length : Int) → (makeGo there all k os L).ever = ((makeGo there all k os L).later.length : Int)
  | [], _, _, h => h
  | o :: os, k, L, h => makeGo_ev (os := os) (makeTurn_ev h)
/-- the ledger behind i old lines of a make -/
def mkAt (all : Bool) (L : Led) (i : Nat) : Led := makeGo (srcs L.later) all 0 (L.elder.take i) L
theorem mkAt_zero (all : Bool) (L : Led) : mkAt all L 0 = L := rfl
theorem mkAt_all (all : Bool) (L : Led) : mkAt all L L.elder.length = makeM all L := by rw [mkAt, List.take_length]; rfl
theorem Mk.at {L : Led} (h : Mk L) (all : Bool) {i : Nat} (hi : i ≤ L.elder.length) : Mk (mkAt all L i) ∧ (mkAt all L i).elder = L.elder ∧ (((i : Int) + 1) ∈ srcs (mkAt all L i).later ↔ ((i : Int) + 1) ∈ srcs L.later) := by
  obtain ⟨h1, h2, h3⟩ := makeGo_inv (all := all) h.wf (fun s hs => hs) i hi
  refine ⟨⟨by rw [show (mkAt all L i).elder = L.elder from h2]; exact h1, makeGo_ev h.ev⟩, h2, fun hs => ?_, fun hs => makeGo_mono hs⟩
  rcases h3 _ hs with h | h
  · exact h
  · omega
theorem mkAt_succ {all : Bool} {L : Led} {i : Nat} {o : OL} (ho : L.elder[i]? = some o) : mkAt all L (i + 1) = makeTurn (srcs L.later) all (mkAt all L i) i o := by
  have hi := (List.getElem?_eq_some_iff.mp ho).1
  unfold mkAt
  rw [List.take_add_one, ho]
  show makeGo _ _ _ (_ ++ [o]) _ = _
  rw [makeGo_snoc, List.length_take, Nat.min_eq_left (by omega), Nat.zero_add]
theorem Mk.make {L : Led} (h : Mk L) (all : Bool) : Mk (makeM all L) ∧ (makeM all L).elder = L.elder := by
  have := h.at all (Nat.le_refl L.elder.length)
  rw [mkAt_all] at this
  exact ⟨this.1, this.2.1⟩
end M
namespace Y
open PySem L2 M
theorem any_ints (ns : List Int) (a : Int) : ((ns.map PyData.int).any fun z => PyData.eqv z (.int a)) = decide (a ∈ ns) := by
  induction ns with
  | nil => simp
  | cons n ns ih =>
    rw [List.map_cons, List.any_cons, ih]
    by_cases e : n = a
    · subst e; simp [PyData.eqv]
    · have : PyData.eqv (.int n) (.int a) = false := by simp [PyData.eqv, e]
      rw [this, Bool.false_or]
      by_cases h : a ∈ ns
      · rw [decide_eq_true h, decide_eq_true (List.mem_cons_of_mem _ h)]
      · rw [decide_eq_false h, decide_eq_false (fun z => (List.mem_cons.mp z).elim (fun y => e y.symm) h)]
theorem shaped_ints (l : List Int) : SeqAt.shaped (.list (l.map PyData.int)) = true := by
  have h : ∀ l : List Int, PyData.canLayAll0 (l.map PyData.int) = true ∧ PyData.depthAll (l.map PyData.int) = 0 := fun l => by
    induction l with
    | nil => exact ⟨rfl, rfl⟩
    | cons i l ih => exact ⟨by simp [PyData.canLayAll0, PyData.canLay0, ih.1], by simp [PyData.depthAll, PyData.depth, ih.2]⟩
  simp [SeqAt.shaped, PyData.canLay0, PyData.depth, (h l).1, (h l).2]
theorem oRows_get {L : Led} {i : Nat} : (oRows L)[i]? = (L.elder[i]?).map fun o => oRow ((i : Int) + 1) o := by rw [oRows, List.getElem?_mapIdx]
theorem oRows_len {L : Led} : (oRows L).length = L.elder.length := by simp [oRows]
theorem nRows_len {L : Led} : (nRows L).length = L.later.length := by simp [nRows]
theorem oRows_same {L L' : Led} (h : L'.elder = L.elder) : oRows L' = oRows L := by rw [oRows, h]; rfl
theorem oRows_add (L : Led) (l a : Int) : oRows (addM L l a) = oRows L ++ [oRow ((L.elder.length : Int) + 1) ⟨l, a, 0, none, true⟩] := by
  simp [oRows, addM, List.mapIdx_append]
theorem oRows_set {L : Led} {j : Nat} {o : OL} {n : Int} (f : OL → OL) (hn : n = (j : Int) + 1) (ho : L.elder[j]? = some o) : oRows (setOld L n f) = (oRows L).set j (oRow ((j : Int) + 1) (f o)) := by
  have e : (n - 1).toNat = j := by omega
  have hj := (List.getElem?_eq_some_iff.mp ho).1
  apply List.ext_getElem?
  intro i
  rw [oRows_get, List.getElem?_set, oRows_get, oRows_len]
  show ((L.elder.modify (n - 1).toNat f)[i]?).map _ = _
  rw [e, List.getElem?_modify]
  by_cases h : j = i
  · subst h
    rw [if_pos rfl, if_pos hj, ho]
    simp
  · rw [if_neg h]
    cases L.elder[i]? <;> simp [h]
theorem orIf {b1 b2 : Bool} {A T : Prop} (h1 : (b1 || b2) = true → A) (h2 : b1 = false → (b2 = true → A) → T) : if b1 = true then A else T := by
  cases b1 with
  | true => rw [if_pos rfl]; exact h1 rfl
  | false => rw [if_neg (by decide)]; exact h2 rfl fun e => h1 (by rw [e]; rfl)
theorem okD_add {l a : Int} (h1 : isLabelD (.int l) = true) (h2 : isAmountD (.int a) = true) : okDeed (.add l a) = true := by
  show isRestD "add" [.int l, .int a] = true
  unfold isRestD
  rw [if_neg (by decide), if_neg (by decide), if_neg (by simp), if_pos rfl]
  show (isLabelD (.int l) && isAmountD (.int a)) = true
  rw [h1, h2]; rfl
theorem isN {n : Int} (h1 : 1 ≤ n) (h2 : n ≤ 1000000000) : isNumberD (.int n) = true := decide_eq_true ⟨h1, h2⟩
theorem okD_label {n l : Int} (h0 : isNumberD (.int n) = true) (h1 : isLabelD (.int l) = true) : okDeed (.label n l) = true := by
  show isRestD "label" [.int n, .int l] = true
  unfold isRestD
  rw [if_neg (by decide), if_neg (by decide), if_neg (by simp), if_neg (by decide), if_neg (by show ¬ isNumberD (.int n) = false; rw [h0]; decide), if_pos (by decide)]
  exact h1
theorem okD_moves {n l : Int} (h0 : isNumberD (.int n) = true) (h1 : isAmountD (.int l) = true) : okDeed (.moves n l) = true := by
  show isRestD "moves" [.int n, .int l] = true
  unfold isRestD
  rw [if_neg (by decide), if_neg (by decide), if_neg (by simp), if_neg (by decide), if_neg (by show ¬ isNumberD (.int n) = false; rw [h0]; decide), if_neg (by decide), if_pos (by decide)]
  exact h1
theorem okD_tie {n : Int} {m : Option Int} (h0 : isNumberD (.int n) = true) (h1 : ∀ k, m = some k → isNumberD (.int k) = true) : okDeed (.tie n m) = true := by
  show isRestD "tie" [.int n, tD m] = true
  unfold isRestD
  rw [if_neg (by decide), if_neg (by decide), if_neg (by simp), if_neg (by decide), if_neg (by show ¬ isNumberD (.int n) = false; rw [h0]; decide), if_neg (by decide), if_neg (by decide), if_pos (by decide)]
  show (isNoneD (tD m) || isNumberD (tD m)) = true
  cases m with
  | none => rfl
  | some k => rw [show tD (some k) = .int k from rfl, h1 k rfl, Bool.or_true]
theorem okD_fin {n : Int} (h0 : isNumberD (.int n) = true) : okDeed (.fin n) = true := by
  show isRestD "end" [.int n] = true
  unfold isRestD
  rw [if_neg (by decide), if_pos (by decide), if_pos rfl]
  show (decide (([PyData.int n] : List PyData).length = 1) && isNumberD (.int n)) = true
  rw [h0]; rfl
theorem okD_own {l : Int} (h1 : isLabelD (.int l) = true) : okDeed (.own l) = true := by
  show isRestD "own" [.int l] = true
  unfold isRestD
  rw [if_neg (by decide), if_pos (by decide), if_neg (by decide)]
  show (decide (([PyData.int l] : List PyData).length = 1) && isLabelD (.int l)) = true
  rw [h1]; rfl
theorem okD_wlabel {n l : Int} (h0 : isNumberD (.int n) = true) (h1 : isLabelD (.int l) = true) : okDeed (.wlabel n l) = true := by
  show isRestD "write label" [.int n, .int l] = true
  unfold isRestD
  rw [if_neg (by decide), if_neg (by decide), if_neg (by simp), if_neg (by decide), if_neg (by show ¬ isNumberD (.int n) = false; rw [h0]; decide), if_pos (by decide)]
  exact h1
theorem okD_wmoves {n l : Int} (h0 : isNumberD (.int n) = true) (h1 : isAmountD (.int l) = true) : okDeed (.wmoves n l) = true := by
  show isRestD "write moves" [.int n, .int l] = true
  unfold isRestD
  rw [if_neg (by decide), if_neg (by decide), if_neg (by simp), if_neg (by decide), if_neg (by show ¬ isNumberD (.int n) = false; rw [h0]; decide), if_neg (by decide), if_pos (by decide)]
  exact h1
theorem okD_wtie {n : Int} {m : Option Int} (h0 : isNumberD (.int n) = true) (h1 : ∀ k, m = some k → isNumberD (.int k) = true) : okDeed (.wtie n m) = true := by
  show isRestD "write tie" [.int n, tD m] = true
  unfold isRestD
  rw [if_neg (by decide), if_neg (by decide), if_neg (by simp), if_neg (by decide), if_neg (by show ¬ isNumberD (.int n) = false; rw [h0]; decide), if_neg (by decide), if_neg (by decide), if_pos (by decide)]
  show (isNoneD (tD m) || isNumberD (tD m)) = true
  cases m with
  | none => rfl
  | some k => rw [show tD (some k) = .int k from rfl, h1 k rfl, Bool.or_true]
theorem mk_yes {there : List Int} {all : Bool} {G : Led} {i : Nat} {o : OL} (h : ((i : Int) + 1) ∉ there) (c : o.standing = true ∨ all = true) (ev : G.ever = (G.later.length : Int)) :
    nRows (makeTurn there all G i o) = nRows G ++ [.tuple [.int (((nRows G).length : Int) + 1), .int o.label, .int (o.start + o.moves), .int 0, .none, .int ((i : Int) + 1)]] ∧ (srcs (makeTurn there all G i o).later) = srcs G.later ++ [(i : Int) + 1] := by
  unfold makeTurn
  rw [if_pos ⟨h, c⟩]
  refine ⟨?_, ?_⟩
  · show (G.later ++ [_]).map nRow = _
    rw [List.map_append, nRows_len, ← ev]; rfl
  · show srcs (G.later ++ [_]) = _
    simp [srcs]
theorem mk_no {there : List Int} {all : Bool} {G : Led} {i : Nat} {o : OL} (h : ¬ (((i : Int) + 1) ∉ there ∧ (o.standing = true ∨ all = true))) : makeTurn there all G i o = G := by
  unfold makeTurn
  rw [if_neg h]
theorem foldl_mk : ∀ {st : List (List Str)} {L : Led}, Mk L → (∀ w ∈ st, ∀ L, Mk L → Mk (stepM L w) ∧ (stepM L w).elder = L.elder) → Mk (st.foldl stepM L) ∧ (st.foldl stepM L).elder = L.elder
  | [], L, h, _ => ⟨h, rfl⟩
  | w :: st, L, h, hs => by
    obtain ⟨h1, h2⟩ := hs w (List.mem_cons_self ..) L h
    obtain ⟨h3, h4⟩ := foldl_mk (st := st) h1 fun w hw => hs w (List.mem_cons_of_mem _ hw)
    exact ⟨h3, by rw [List.foldl_cons, h4, h2]⟩
theorem foldl_snoc {α β : Type} {f : α → β → α} {a : α} {l : List β} {i : Nat} {x : β} (h : l[i]? = some x) : (l.take (i + 1)).foldl f a = f ((l.take i).foldl f a) x := by
  rw [List.take_add_one, h]
  simp [List.foldl_append]
theorem Mk.lens {L : Led} (h : Mk L) : (nRows L).length ≤ L.elder.length ∧ ((srcs L.later).map PyData.int).length ≤ L.elder.length := by
  have h1 := h.wf.later_len
  refine ⟨by rw [nRows_len]; exact h1, ?_⟩
  rw [List.length_map]
  exact Nat.le_trans (List.length_filterMap_le _ _) h1
theorem OkAll.snoc {st : List (List Str)} : ∀ {es : List Deed} {L : Led} {e : Deed}, OkAll st L es → okM (playAll st L es) e → OkAll st L (es ++ [e])
  | [], _, _, _, h => ⟨h, trivial⟩
  | x :: es, L, e, h, h2 => ⟨h.1, OkAll.snoc (es := es) h.2 h2⟩
theorem OkAll.take {st : List (List Str)} : ∀ {es : List Deed} {L : Led} (n : Nat), OkAll st L es → OkAll st L (es.take n)
  | _, _, 0, _ => by rw [List.take_zero]; exact trivial
  | [], _, _ + 1, _ => trivial
  | x :: es, L, n + 1, h => ⟨h.1, OkAll.take n h.2⟩
theorem playAll_snoc2 {st : List (List Str)} {es : List Deed} {L : Led} {e : Deed} : playAll st L (es ++ [e]) = playM st (playAll st L es) e := by
  simp [playAll, List.foldl_append]
def isAdd : Deed → Bool
  | .add _ _ => true
  | _ => false
theorem deed_word (e : Deed) : ∃ wd rest, dD e = .tuple (.str wd :: rest) ∧ decide (V.str wd = V.str "add") = isAdd e := by
  cases e <;> exact ⟨_, _, rfl, by rfl⟩
theorem atI_last {α : Type} (l : List α) (x : α) : atI (l ++ [x]) (-1) = some x := by
  have h : (-1 + ((l.length : Int) + 1)).toNat = l.length := by omega
  have h2 : (1 : Int) ≤ (l.length : Int) + 1 := by omega
  simp [atI, ixN, h2, h]
theorem set_same {α : Type} {l : List α} {i : Nat} {c : α} (h : l[i]? = some c) : l.set i c = l := by
  apply List.ext_getElem?
  intro j
  rw [List.getElem?_set]
  by_cases e : i = j
  · subst e
    have hi := (List.getElem?_eq_some_iff.mp h).1
    rw [if_pos rfl, if_pos hi, h]
  · rw [if_neg e]
theorem get_app {α : Type} {l m : List α} {i : Nat} {c : α} (h : l[i]? = some c) : (l ++ m)[i]? = some c := by
  rw [List.getElem?_append_left (List.getElem?_eq_some_iff.mp h).1]; exact h
end Y

/-! # what stays well formed, in all histories -/
namespace Y
open PySem L2 M
theorem untie_no (G : List Int) (n : NL) : (untie G n).number = n.number := by
  unfold untie
  split
  · rfl
  · split <;> rfl
theorem untie_src (G : List Int) (n : NL) : (untie G n).source = n.source := by
  unfold untie
  split
  · rfl
  · split <;> rfl
theorem untie_typed (G : List Int) (n : NL) : (untie G n).typed = n.typed := by
  unfold untie
  split
  · rfl
  · split <;> rfl
/-! ### what stays well formed -/
structure Sound (L : Led) (B : Nat) : Prop where
  wf : WF L B
  ty : ∀ n ∈ L.later, ("start" : Str) ∉ n.typed
theorem Sound.nums {L : Led} {B : Nat} (h : Sound L B) : (nums L.later).Nodup := h.wf.num.imp fun h => Int.ne_of_lt h
theorem Sound.init : Sound Led.init 0 := ⟨WF.init, fun n h => absurd h List.not_mem_nil⟩
theorem Sound.mono {L : Led} {B B' : Nat} (h : Sound L B) (hb : B ≤ B') : Sound L B' := ⟨h.wf.mono hb, h.ty⟩
theorem Sound.map {L : Led} {B : Nat} {f : NL → NL} (h : Sound L B) (hf : ∀ n ∈ L.later, (f n).number = n.number ∧ (f n).source = n.source ∧ (f n).typed = n.typed) : Sound { L with later := L.later.map f } B :=
  ⟨WF.map h.wf fun n hn => ⟨(hf n hn).1, (hf n hn).2.1, by rw [(hf n hn).2.2]; exact h.wf.ty n hn⟩, fun m hm => by
    obtain ⟨n, hn, rfl⟩ := List.mem_map.mp hm
    rw [(hf n hn).2.2]; exact h.ty n hn⟩
theorem Sound.filter {L : Led} {B : Nat} {p : NL → Bool} (h : Sound L B) : Sound { L with later := L.later.filter p } B := by
  have hs : (L.later.filter p).Sublist L.later := List.filter_sublist
  refine ⟨⟨h.wf.num.sublist (hs.map _), fun n hn => h.wf.lo n (hs.subset hn), h.wf.ev, fun s hs' => h.wf.src s ((hs.filterMap _).subset hs'), h.wf.nd.sublist (hs.filterMap _), ?_, fun n hn => h.wf.ty n (hs.subset hn)⟩, fun n hn => h.ty n (hs.subset hn)⟩
  have h1 : owns (L.later.filter p) ≤ owns L.later := (hs.filter _).length_le
  have h2 := h.wf.sz
  show L.elder.length + owns (L.later.filter p) ≤ B
  omega
theorem Sound.drop {L : Led} {B : Nat} (h : Sound L B) : Sound (dropM L) B :=
  Sound.map (L := { L with later := L.later.filter fun n => decide (n.number ∉ gone L) }) h.filter fun n _ => ⟨untie_no _ n, untie_src _ n, untie_typed _ n⟩
theorem follow1_keep (L : Led) (f sc : Str) (n : NL) : (follow1 L f sc n).number = n.number ∧ (follow1 L f sc n).source = n.source ∧ (follow1 L f sc n).typed = n.typed := by
  unfold follow1
  split
  · exact ⟨rfl, rfl, rfl⟩
  · rename_i s hs
    split
    · split
      · exact ⟨rfl, rfl, rfl⟩
      · split
        · exact ⟨rfl, rfl, rfl⟩
        · split
          · exact ⟨rfl, rfl, rfl⟩
          · exact ⟨rfl, rfl, rfl⟩
    · exact ⟨rfl, rfl, rfl⟩
theorem Sound.follow {L : Led} {B : Nat} (h : Sound L B) (f sc : Str) : Sound (followM f sc L) B := h.map fun n _ => follow1_keep L f sc n
theorem makeTurn_ty {there : List Int} {all : Bool} {L : Led} {i : Nat} {o : OL} (h : ∀ n ∈ L.later, ("start" : Str) ∉ n.typed) : ∀ n ∈ (makeTurn there all L i o).later, ("start" : Str) ∉ n.typed := by
  unfold makeTurn
  split
  · intro n hn
    rcases List.mem_append.mp (show n ∈ L.later ++ [_] from hn) with hn | hn
    · exact h n hn
    · rw [List.mem_singleton.mp hn]; exact List.not_mem_nil
  · exact h
theorem makeGo_ty {there : List Int} {all : Bool} : ∀ {os : List OL} {k : Nat} {L : Led}, (∀ n ∈ L.later, ("start" : Str) ∉ n.typed) → ∀ n ∈ (makeGo there all k os L).later, ("start" : Str) ∉ n.typed
  | [], _, _, h => h
  | _ :: os, _, _, h => makeGo_ty (os := os) (makeTurn_ty h)
theorem makeTurn_fr {there : List Int} {all : Bool} {L : Led} {i : Nat} {o : OL} : (makeTurn there all L i o).fresh.length ≤ L.fresh.length + 1 := by
  unfold makeTurn
  split
  · show (L.fresh ++ [_]).length ≤ _
    rw [List.length_append]; exact Nat.le_refl _
  · omega
theorem makeGo_fr {there : List Int} {all : Bool} : ∀ {os : List OL} {k : Nat} {L : Led}, (makeGo there all k os L).fresh.length ≤ L.fresh.length + os.length
  | [], _, _ => Nat.le_refl _
  | o :: os, k, L => by
    have h1 := makeGo_fr (there := there) (all := all) (os := os) (k := k + 1) (L := makeTurn there all L k o)
    have h2 := makeTurn_fr (there := there) (all := all) (L := L) (i := k) (o := o)
    show (makeGo there all (k + 1) os (makeTurn there all L k o)).fresh.length ≤ _
    rw [List.length_cons]; omega
/-- the ledger behind i old lines of a make, sound -/
theorem Sound.at {L : Led} {B : Nat} (h : Sound L B) (all : Bool) {i : Nat} (hi : i ≤ L.elder.length) : Sound (mkAt all L i) B ∧ (mkAt all L i).elder = L.elder ∧ (((i : Int) + 1) ∈ srcs (mkAt all L i).later ↔ ((i : Int) + 1) ∈ srcs L.later) ∧ (mkAt all L i).fresh.length ≤ L.fresh.length + i := by
  obtain ⟨h1, h2, h3⟩ := makeGo_inv (all := all) h.wf (fun s hs => hs) i hi
  refine ⟨⟨h1, makeGo_ty h.ty⟩, h2, ⟨fun hs => ?_, fun hs => makeGo_mono hs⟩, ?_⟩
  · rcases h3 _ hs with h | h
    · exact h
    · omega
  · have := makeGo_fr (there := srcs L.later) (all := all) (os := L.elder.take i) (k := 0) (L := L)
    rw [List.length_take, Nat.min_eq_left hi] at this
    exact this
theorem Sound.step {L : Led} {B : Nat} (h : Sound L B) (w : List Str) : Sound (stepM L w) B ∧ (stepM L w).elder = L.elder ∧ (stepM L w).fresh.length ≤ L.fresh.length + L.elder.length := by
  have mk : ∀ all, Sound (makeM all L) B ∧ (makeM all L).elder = L.elder ∧ (makeM all L).fresh.length ≤ L.fresh.length + L.elder.length := fun all => by
    obtain ⟨h1, h2, _, h4⟩ := h.at all (Nat.le_refl L.elder.length)
    rw [mkAt_all] at h1 h2 h4
    exact ⟨h1, h2, h4⟩
  unfold stepM
  split
  · split
    · exact ⟨h.drop, rfl, Nat.le_add_right _ _⟩
    · exact ⟨h, rfl, Nat.le_add_right _ _⟩
  · split
    · exact mk _
    · split
      · exact ⟨h.drop, rfl, Nat.le_add_right _ _⟩
      · exact ⟨h.follow _ _, rfl, Nat.le_add_right _ _⟩
  · exact ⟨h, rfl, Nat.le_add_right _ _⟩
theorem Sound.run0 {L : Led} {B : Nat} (h : Sound L B) (ah : List (Int × Int × Option Int)) (fr : List Int) : Sound { L with ahead := ah, fresh := fr } B := ⟨⟨h.wf.num, h.wf.lo, h.wf.ev, h.wf.src, h.wf.nd, h.wf.sz, h.wf.ty⟩, h.ty⟩
theorem Sound.fold {B : Nat} : ∀ {st : List (List Str)} {L : Led}, Sound L B → Sound (st.foldl stepM L) B ∧ (st.foldl stepM L).elder = L.elder ∧ (st.foldl stepM L).fresh.length ≤ L.fresh.length + st.length * L.elder.length
  | [], L, h => ⟨h, rfl, Nat.le_add_right _ _⟩
  | w :: st, L, h => by
    obtain ⟨h1, h2, h3⟩ := h.step w
    obtain ⟨h4, h5, h6⟩ := Sound.fold (st := st) h1
    refine ⟨h4, h5.trans h2, ?_⟩
    rw [h2] at h6
    rw [List.foldl_cons, List.length_cons, Nat.add_mul, Nat.one_mul]
    omega
theorem Sound.run {L : Led} {B : Nat} (h : Sound L B) (st : List (List Str)) : Sound (runM st L) B ∧ (runM st L).elder = L.elder := by
  obtain ⟨h1, h2, _⟩ := Sound.fold (st := st) (h.run0 (L.later.map fun n => (n.number, n.label, n.tie)) [])
  exact ⟨h1, h2⟩
theorem Sound.play {L : Led} {B : Nat} (h : Sound L B) (st : List (List Str)) (e : Deed) : Sound (playM st L e) (B + 1) := by
  have old : ∀ n f, Sound (setOld L n f) (B + 1) := fun n f => by
    have hl : (setOld L n f).elder.length = L.elder.length := by simp [setOld]
    exact Sound.mono ⟨⟨h.wf.num, h.wf.lo, h.wf.ev, fun s hs => by have := h.wf.src s hs; rw [hl]; exact this, h.wf.nd, by have := h.wf.sz; rw [hl]; exact this, h.wf.ty⟩, h.ty⟩ (Nat.le_succ B)
  have new : ∀ (n : Int) (f : NL → NL), (∀ m, (f m).number = m.number ∧ (f m).source = m.source ∧ ((f m).typed = m.typed ∨ ∃ w : Str, w ≠ "start" ∧ (f m).typed = m.typed ++ [w])) → Sound (setNew L n f) (B + 1) := fun n f hf => by
    refine ⟨WF.map (h.wf.mono (Nat.le_succ B)) fun m hm => ?_, fun m' hm' => ?_⟩
    · have h0 := h.wf.ty m hm
      split
      · refine ⟨(hf m).1, (hf m).2.1, ?_⟩
        rcases (hf m).2.2 with e | ⟨w, _, e⟩
        · rw [e]; omega
        · rw [e, List.length_append]; show _ + 1 ≤ _; omega
      · exact ⟨rfl, rfl, by omega⟩
    · obtain ⟨m, hm, rfl⟩ := List.mem_map.mp hm'
      have h0 := h.ty m hm
      split
      · rcases (hf m).2.2 with e | ⟨w, hw, e⟩
        · rw [e]; exact h0
        · rw [e]; exact fun z => (List.mem_append.mp z).elim h0 fun z => hw (List.mem_singleton.mp z).symm
      · exact h0
  cases e with
  | add l a =>
    have hl : (addM L l a).elder.length = L.elder.length + 1 := by simp [addM]
    refine ⟨⟨h.wf.num, h.wf.lo, h.wf.ev, fun s hs => by have := h.wf.src s hs; show 1 ≤ s ∧ s ≤ ((addM L l a).elder.length : Int); rw [hl]; omega, h.wf.nd, by have := h.wf.sz; show (addM L l a).elder.length + owns L.later ≤ B + 1; rw [hl]; omega, fun n hn => Nat.le_trans (h.wf.ty n hn) (Nat.le_succ B)⟩, h.ty⟩
  | label n l => exact old _ _
  | moves n a => exact old _ _
  | tie n m => exact old _ _
  | fin n => exact old _ _
  | own l =>
    refine ⟨WF.own h.wf l, fun n hn => ?_⟩
    rcases List.mem_append.mp (show n ∈ L.later ++ [_] from hn) with hn | hn
    · exact h.ty n hn
    · rw [List.mem_singleton.mp hn]; exact List.not_mem_nil
  | wlabel n l => exact new _ _ fun m => ⟨rfl, rfl, .inr ⟨"label", by decide, rfl⟩⟩
  | wmoves n a => exact new _ _ fun m => ⟨rfl, rfl, .inl rfl⟩
  | wtie n m => exact new _ _ fun m => ⟨rfl, rfl, .inr ⟨"tie", by decide, rfl⟩⟩
  | run => exact ((h.run st).1).mono (Nat.le_succ B)
theorem Sound.all {st : List (List Str)} : ∀ {es : List Deed} {L : Led} {B : Nat}, Sound L B → Sound (playAll st L es) (B + es.length)
  | [], _, _, h => h
  | e :: es, L, B, h => by
    have := Sound.all (st := st) (es := es) (h.play st e)
    rw [List.length_cons, show B + (es.length + 1) = B + 1 + es.length by omega]
    exact this
end Y

namespace Y
open PySem L2 M
/-! ### the shape of rows and faults -/
def Flat (n : Nat) (d : PyData) : Prop := PyData.canLay0 d = true ∧ PyData.depth d ≤ n
theorem flat_all {n : Nat} : ∀ {ds : List PyData}, (∀ d ∈ ds, Flat n d) → PyData.canLayAll0 ds = true ∧ PyData.depthAll ds ≤ n
  | [], _ => ⟨rfl, Nat.zero_le _⟩
  | d :: ds, h => by
    obtain ⟨h1, h2⟩ := flat_all (ds := ds) fun x hx => h x (List.mem_cons_of_mem _ hx)
    obtain ⟨h3, h4⟩ := h d (List.mem_cons_self ..)
    refine ⟨by rw [PyData.canLayAll0, h3, h1]; rfl, ?_⟩
    rw [PyData.depthAll]; omega
theorem flat_list {n : Nat} {ds : List PyData} (h : ∀ d ∈ ds, Flat n d) : Flat (n + 1) (.list ds) := by
  obtain ⟨h1, h2⟩ := flat_all h
  exact ⟨by rw [PyData.canLay0]; exact h1, by rw [PyData.depth]; omega⟩
theorem flat_tup {n : Nat} {ds : List PyData} (h : ∀ d ∈ ds, Flat n d) : Flat (n + 1) (.tuple ds) := by
  obtain ⟨h1, h2⟩ := flat_all h
  exact ⟨by rw [PyData.canLay0]; exact h1, by rw [PyData.depth]; omega⟩
theorem Flat.shaped {n : Nat} {d : PyData} (h : Flat n d) (hn : n ≤ 64) : SeqAt.shaped d = true := by
  unfold SeqAt.shaped
  rw [h.1, decide_eq_true (Nat.le_trans h.2 hn)]; rfl
theorem Flat.mono {n m : Nat} {d : PyData} (h : Flat n d) (hn : n ≤ m) : Flat m d := ⟨h.1, Nat.le_trans h.2 hn⟩
theorem flt_int {i : Int} : Flat 0 (.int i) := ⟨rfl, Nat.le_refl _⟩
theorem flat_bool {i : Bool} : Flat 0 (.bool i) := ⟨rfl, Nat.le_refl _⟩
theorem flat_tD {m : Option Int} : Flat 0 (tD m) := by cases m <;> exact ⟨rfl, Nat.le_refl _⟩
theorem flat_oRow (k : Int) (o : OL) : Flat 1 (oRow k o) := flat_tup fun d hd => by
  simp only [List.mem_cons, List.not_mem_nil, or_false] at hd
  rcases hd with rfl | rfl | rfl | rfl | rfl | rfl <;> first | exact flt_int | exact flat_tD | exact flat_bool
theorem flat_nRow (n : NL) : Flat 1 (nRow n) := flat_tup fun d hd => by
  simp only [List.mem_cons, List.not_mem_nil, or_false] at hd
  rcases hd with rfl | rfl | rfl | rfl | rfl | rfl <;> first | exact flt_int | exact flat_tD
theorem flat_oRows (L : Led) : Flat 2 (.list (oRows L)) := flat_list fun d hd => by
  obtain ⟨j, o, rfl⟩ := mem_oRows hd
  exact flat_oRow _ _
theorem flat_nRows (L : Led) : Flat 2 (.list (nRows L)) := flat_list fun d hd => by
  obtain ⟨n, _, rfl⟩ := List.mem_map.mp hd
  exact flat_nRow n
def rowsD (L : Led) : PyData := .tuple [.list (oRows L), .list (nRows L)]
theorem flat_rows (L : Led) : Flat 3 (rowsD L) := flat_tup fun d hd => by
  simp only [List.mem_cons, List.not_mem_nil, or_false] at hd
  rcases hd with rfl | rfl
  · exact flat_oRows L
  · exact flat_nRows L
theorem Flat.eqv {n : Nat} {d : PyData} (h : Flat n d) : PyData.eqv d d = true := SeqAt.eqv_refl d h.1
/-- the words of faults -/
def WRONGS : List Str := ["missing", "stays", "start", "label", "tie", "typed label", "typed tie"]
theorem oldWrongs_words {L : Led} {k : Int} {o : OL} {w : Str} (h : w ∈ oldWrongsM L k o) : w ∈ (["missing", "stays", "start", "label", "tie"] : List Str) := by
  unfold oldWrongsM at h
  split at h
  · split at h
    · rw [List.mem_singleton.mp h]; simp
    · cases h
  · split at h
    · rw [List.mem_singleton.mp h]; simp
    · simp only [List.mem_append] at h
      rcases h with h | h | h <;> split at h <;> first | cases h; done | (rw [List.mem_singleton.mp h]; simp)
theorem typedWrongs_words {L : Led} {n : NL} {w : Str} (h : w ∈ typedWrongsM L n) : w ∈ (["typed label", "typed tie"] : List Str) := by
  unfold typedWrongsM at h
  split at h
  · cases h
  · simp only [List.mem_append] at h
    rcases h with h | h <;> split at h <;> first | cases h; done | (rw [List.mem_singleton.mp h]; simp)
theorem wrongs_words {L : Led} {x : Str × Int} (h : x ∈ wrongsM L) : x.1 ∈ WRONGS := by
  unfold wrongsM at h
  rcases List.mem_append.mp h with h | h
  · obtain ⟨l, hl, hx⟩ := List.mem_flatten.mp h
    obtain ⟨i, hi, rfl⟩ := List.mem_mapIdx.mp hl
    obtain ⟨w, hw, rfl⟩ := List.mem_map.mp hx
    have := oldWrongs_words hw
    simp only [List.mem_cons, List.not_mem_nil, or_false] at this
    rcases this with rfl | rfl | rfl | rfl | rfl <;> simp [WRONGS]
  · obtain ⟨l, hl, hx⟩ := List.mem_flatten.mp h
    obtain ⟨n, hn, rfl⟩ := List.mem_map.mp hl
    obtain ⟨w, hw, rfl⟩ := List.mem_map.mp hx
    have := typedWrongs_words hw
    simp only [List.mem_cons, List.not_mem_nil, or_false] at this
    rcases this with rfl | rfl <;> simp [WRONGS]
theorem flat_word {w : Str} (h : w ∈ WRONGS) : Flat 0 (.str w) := by
  simp only [WRONGS, List.mem_cons, List.not_mem_nil, or_false] at h
  rcases h with rfl | rfl | rfl | rfl | rfl | rfl | rfl <;> exact ⟨by decide +kernel, Nat.le_refl _⟩
theorem flat_fD {x : Str × Int × Int} (h : x.1 ∈ WRONGS) : Flat 1 (fD x) := flat_tup fun d hd => by
  simp only [List.mem_cons, List.not_mem_nil, or_false] at hd
  rcases hd with rfl | rfl | rfl
  · exact flat_word h
  · exact flt_int
  · exact flt_int
end Y

/-! # years that stay good; more rules -/
namespace Y
open PySem L2 M
/-- the own line with number 1 -/
def Own1 (L : Led) : Prop := ∃ n ∈ L.later, n.number = 1 ∧ n.source = none
theorem own1_map {L : Led} {f : NL → NL} (o : Own1 L) (hf : ∀ n ∈ L.later, (f n).number = n.number ∧ (f n).source = n.source) : Own1 { L with later := L.later.map f } := by
  obtain ⟨n, h1, h2, h3⟩ := o
  obtain ⟨g1, g2⟩ := hf n h1
  exact ⟨f n, List.mem_map_of_mem h1, g1.trans h2, g2.trans h3⟩
theorem own1_turn {there : List Int} {all : Bool} {L : Led} {i : Nat} {o : OL} (h : Own1 L) : Own1 (makeTurn there all L i o) := by
  obtain ⟨n, h1, h2, h3⟩ := h
  unfold makeTurn
  split
  · exact ⟨n, List.mem_append_left _ h1, h2, h3⟩
  · exact ⟨n, h1, h2, h3⟩
theorem own1_go {there : List Int} {all : Bool} : ∀ {os : List OL} {k : Nat} {L : Led}, Own1 L → Own1 (makeGo there all k os L)
  | [], _, _, h => h
  | o :: os, k, L, h => own1_go (os := os) (k := k + 1) (L := makeTurn there all L k o) (own1_turn h)
theorem num_one : ∀ {l : List NL} {m n : NL}, (l.map (·.number)).Nodup → m ∈ l → n ∈ l → m.number = n.number → m = n
  | [], _, _, _, h, _, _ => absurd h List.not_mem_nil
  | x :: l, m, n, hn, hm, hk, e => by
    rw [List.map_cons, List.nodup_cons] at hn
    rcases List.mem_cons.mp hm with e1 | hm1 <;> rcases List.mem_cons.mp hk with e2 | hk1
    · rw [e1, e2]
    · exact absurd (by rw [← e1, e]; exact List.mem_map_of_mem hk1) hn.1
    · exact absurd (by rw [← e2, ← e]; exact List.mem_map_of_mem hm1) hn.1
    · exact num_one hn.2 hm1 hk1 e
theorem own1_drop {L : Led} {B : Nat} (h : Sound L B) (o : Own1 L) : Own1 (dropM L) := by
  obtain ⟨n, h1, h2, h3⟩ := o
  have hg : n.number ∉ gone L := fun hg => by
    obtain ⟨m, hm, em⟩ := List.mem_map.mp hg
    obtain ⟨hm1, hm2⟩ := List.mem_filter.mp hm
    have : m = n := num_one (by have hn := h.nums; unfold nums at hn; exact hn) hm1 h1 em
    rw [this] at hm2
    unfold isGone at hm2
    rw [h3] at hm2; cases hm2
  exact ⟨untie (gone L) n, List.mem_map_of_mem (List.mem_filter.mpr ⟨h1, decide_eq_true hg⟩), (untie_no _ n).trans h2, (untie_src _ n).trans h3⟩
theorem own1_step {L : Led} {B : Nat} (h : Sound L B) (o : Own1 L) (w : List Str) : Own1 (stepM L w) := by
  have hf : ∀ f sc, Own1 (followM f sc L) := fun f sc => own1_map o fun n _ => ⟨(follow1_keep L f sc n).1, (follow1_keep L f sc n).2.1⟩
  unfold stepM
  split
  · split
    · exact own1_drop h o
    · exact o
  · split
    · exact own1_go o
    · split
      · exact own1_drop h o
      · exact hf _ _
  · exact o
theorem own1_fold {B : Nat} : ∀ {st : List (List Str)} {L : Led}, Sound L B → Own1 L → Own1 (st.foldl stepM L)
  | [], _, _, o => o
  | w :: st, L, h, o => own1_fold (st := st) (L := stepM L w) (h.step w).1 (own1_step h o w)
theorem own1_play {L : Led} {B : Nat} (h : Sound L B) (o : Own1 L) (st : List (List Str)) (e : Deed) : Own1 (playM st L e) := by
  have hn : ∀ (n : Int) (f : NL → NL), (∀ m, (f m).number = m.number ∧ (f m).source = m.source) → Own1 (setNew L n f) := fun n f hf => own1_map o fun m _ => by
    split
    · exact hf m
    · exact ⟨rfl, rfl⟩
  cases e with
  | add l a => exact o
  | label n l => exact o
  | moves n l => exact o
  | tie n l => exact o
  | fin n => exact o
  | own l =>
    obtain ⟨n, h1, h2, h3⟩ := o
    exact ⟨n, List.mem_append_left _ h1, h2, h3⟩
  | wlabel n l => exact hn n _ fun m => ⟨rfl, rfl⟩
  | wmoves n l => exact hn n _ fun m => ⟨rfl, rfl⟩
  | wtie n l => exact hn n _ fun m => ⟨rfl, rfl⟩
  | run => exact own1_fold (h.run0 _ _) o
theorem elder_play {L : Led} {B : Nat} (h : Sound L B) (st : List (List Str)) (e : Deed) : L.elder.length ≤ (playM st L e).elder.length := by
  have hs : ∀ n f, L.elder.length ≤ (setOld L n f).elder.length := fun n f => by simp [setOld]
  cases e with
  | add l a => show _ ≤ (L.elder ++ [_]).length; simp
  | label n l => exact hs _ _
  | moves n l => exact hs _ _
  | tie n l => exact hs _ _
  | fin n => exact hs _ _
  | own l => exact Nat.le_refl _
  | wlabel n l => exact Nat.le_refl _
  | wmoves n l => exact Nat.le_refl _
  | wtie n l => exact Nat.le_refl _
  | run => show _ ≤ (runM st L).elder.length; rw [(h.run st).2]; exact Nat.le_refl _
theorem flat_wrongs {L : Led} {i : Int} : Flat 2 (.list ((wrongsM L).map (wD i))) := flat_list fun d hd => by
  obtain ⟨x, hx, rfl⟩ := List.mem_map.mp hd
  exact flat_tup fun d hd => by
    simp only [List.mem_cons, List.not_mem_nil, or_false] at hd
    rcases hd with rfl | rfl | rfl
    · exact flat_word (wrongs_words hx)
    · exact flt_int
    · exact flt_int
theorem flat_ints (l : List Int) : Flat 1 (.list (l.map PyData.int)) := flat_list fun d hd => by
  obtain ⟨x, _, rfl⟩ := List.mem_map.mp hd
  exact flt_int
theorem flat_tell (y : YS) (e : Deed) : Flat 2 (y.tell e) := by
  have ni : ∀ i : Int, Flat 2 (.int i) := fun i => flt_int.mono (by decide)
  have nn : Flat 2 PyData.none := ⟨rfl, Nat.zero_le _⟩
  have nr : Flat 2 (runD y.ws y.led) := flat_tup fun d hd => by
    simp only [List.mem_cons, List.not_mem_nil, or_false] at hd
    rcases hd with rfl | rfl <;> exact flat_ints _
  unfold YS.tell
  cases e <;> first | exact ni _ | exact nn | exact nr
theorem flat_tells : ∀ (es : List Deed) (y : YS), Flat 3 (.list (y.tells es)) := fun es y => flat_list fun d hd => by
  induction es generalizing y with
  | nil => exact absurd hd List.not_mem_nil
  | cons e es ih =>
    rcases List.mem_cons.mp hd with rfl | hd
    · exact flat_tell y e
    · exact ih (y.play e) hd
theorem flat_step {d : PyData} (h : d ∈ STEPSD) : Flat 1 d := by
  simp only [STEPSD, List.mem_cons, List.not_mem_nil, or_false] at h
  rcases h with rfl | rfl | rfl | rfl | rfl | rfl | rfl | rfl | rfl | rfl | rfl | rfl <;> exact ⟨by decide +kernel, by decide +kernel⟩
structure YOk (y : YS) : Prop where
  snd : ∃ B, Sound y.led B
  el : 1 ≤ y.led.elder.length
  own : Own1 y.led
  wr : Flat 2 (.list y.wrong)
theorem YOk.play {y : YS} (h : YOk y) (e : Deed) : YOk (y.play e) := by
  obtain ⟨B, hs⟩ := h.snd
  refine ⟨⟨B + 1, hs.play _ e⟩, Nat.le_trans h.el (elder_play hs _ e), own1_play hs h.own _ e, ?_⟩
  show Flat 2 (.list (if isRun e = true then _ else y.wrong))
  split
  · exact flat_wrongs
  · exact h.wr
theorem act_ok {y : YS} (h : YOk y) {t : Int} {e : Deed} (t0 : 0 ≤ t) (t1 : t < 5) (ha : ActD t e) : okDeed e = true ∧ okM y.led e := by
  have he : inO y.led 1 := ⟨by decide, by have := h.el; omega⟩
  have hn : inN y.led 1 := by
    obtain ⟨n, h1, h2, _⟩ := h.own
    unfold inN nums
    rw [← h2]; exact List.mem_map_of_mem h1
  have h1 : ∀ k : Int, some 1 = some k → k = 1 := fun k e => (Option.some.inj e).symm
  simp only [ActD, List.mem_cons, List.not_mem_nil, or_false] at ha
  have hk : okDeed e = true := by
    rcases (by omega : t = 0 ∨ t = 1 ∨ t = 2 ∨ t = 3 ∨ t = 4) with rfl | rfl | rfl | rfl | rfl <;> rcases ha with rfl | rfl | rfl | rfl | rfl | rfl | rfl | rfl | rfl <;> decide +kernel
  refine ⟨hk, ?_⟩
  rcases ha with rfl | rfl | rfl | rfl | rfl | rfl | rfl | rfl | rfl
  · trivial
  · exact he
  · exact he
  · exact ⟨he, fun k e => by rw [h1 k e]; exact he⟩
  · exact ⟨he, fun k e => by cases e⟩
  · trivial
  · exact hn
  · exact ⟨hn, fun k e => by rw [h1 k e]; exact hn⟩
  · trivial
/-! ### rules -/
section
variable {K : PySem.W.Frag} {C cy : Addr} {D : C3} {F F' H H' : Hp} {as as' : Own} {cs cs' cs1 : List Cell} {E : AEnv} {k : AV → List Cell → Prop} {x : AV} {te : TE} {tas : TA} {X : XK} {y z : YS} {past : List YS} {i : Nat}
theorem ev_yMN {m : Str} {sp : Sp} {l : Nat} {gV : List V → List V → List V} (hg : ∀ a vs, gV [a] vs = a :: vs) (hm : ∀ a1 a2 a3 a4 q, (yF a1 a2 a3 a4 q).lookup m = none) (h : Ev K C E cs te fun x cs1 => ∃ i y0 past0, x = .cel i ∧ cs1[i]? = some (yrC K D C cy y0 past0) ∧ Evs K C E cs1 tas fun xs cs2 => xs.length = l ∧ ∃ y past, cs2[i]? = some (yrC K D C cy y past) ∧ YM K C cy D sp X i y past xs cs2 k) :
    Ev K C E cs (tMethN cy m l sp gV X te tas) k := fun F as H σ Q w e z => by
  refine h F as H σ _ w e fun x cs1 v F1 as1 H1 ⟨i, y0, past0, hx, hc, h1⟩ s1 w1 r1 => ?_
  subst hx
  cases r1 with | @cel _ p r hi =>
  obtain ⟨p', q, ho, dx, a1, a2, a3, a4, ts, Y⟩ := w1.yr hi hc
  cases ho
  refine ⟨_, dx, _, rfl, Y.ob, hm _ _ _ _ _, ?_⟩
  refine h1 F1 as1 H1 σ _ w1 (e.mono s1.f s1.pre) fun xs cs2 vs F2 as2 H2 ⟨hl, y, past, hc2, hY⟩ s2 w2 r2 => ⟨by rw [← r2.length]; exact hl, ?_⟩
  obtain ⟨r, hi2⟩ := s2.pre _ _ hi
  obtain ⟨p2, q2, ho2, hY2⟩ := w2.yr hi2 hc2
  obtain ⟨rfl, rfl, rfl⟩ : p = p2 ∧ q = q2 ∧ r = [] := by simpa using ho2
  rw [hg]
  exact hY F2 as2 H2 p q vs Q w2 hi2 hY2 (w2.dis _ _ hi2 q (by simp)).1 r2 (Kt.later z (s1.tr s2))
theorem ev_yP {sp : Sp} (h : Ev K C E cs te fun x cs1 => ∃ i y past, x = .cel i ∧ cs1[i]? = some (yrC K D C cy y past) ∧ YM K C cy D sp X i y past [] cs1 k) : Ev K C E cs (tProp cy sp [] X te) k := fun F as H σ Q w e z => by
  refine h F as H σ _ w e fun x cs1 v F1 as1 H1 ⟨i, y, past, hx, hc, h1⟩ s1 w1 r1 => ?_
  subst hx
  cases r1 with | @cel _ p r hi =>
  obtain ⟨p', q, ho, hY⟩ := w1.yr hi hc
  cases ho
  obtain ⟨dx, a1, a2, a3, a4, ts, Y⟩ := id hY
  exact ⟨_, dx, _, rfl, Y.ob, h1 F1 as1 H1 p q [] Q w1 hi hY (w1.dis _ _ hi q (by simp)).1 .nil (Kt.later z s1)⟩
theorem on_lenY (hc : cs[i]? = some (yrC K D C cy y past)) (hz : y.story.length ≤ 5000) (h : k (.d (.int y.story.length)) cs) : On K C (rLenO cy (spYLen K D C cy) X) [.cel i] cs k := fun F as H vs Q w r z => by
  cases r with | cons r1 r2 =>
  cases r2
  cases r1 with | @cel _ p r hi =>
  obtain ⟨p', q, ho, hY⟩ := w.yr hi hc
  cases ho
  obtain ⟨dx, a1, a2, a3, a4, ts, Y⟩ := id hY
  exact ⟨_, dx, _, rfl, Y.ob, p, q, y, past, rfl, hY.up w.fro, _, rfl, by omega, by omega, z.now h w (.d (.int _))⟩
/-- what is told is frozen -/
theorem ym_oldD (hz : y.story.length ≤ 4990) (h : k (.d (.list (oRows y.led))) cs) : YM K C cy D (spYOld K D C cy) X i y past [] cs k := fun F as H p q vs Q w hi hY hq r z => by
  cases r
  refine ⟨p, q, y, past, rfl, hY.up w.fro, hz, fun e xs H' s ne he hx => ?_⟩
  obtain ⟨w', s'⟩ := w.same s
  exact z _ _ _ _ _ _ h s' w' (.d (.lst (SqL.of (by rw [absF_new ne]; exact he)) (w'.immAll (imm_oRows _) hx)))
theorem ym_newD (hz : y.story.length ≤ 4990) (h : k (.d (.list (nRows y.led))) cs) : YM K C cy D (spYNew K D C cy) X i y past [] cs k := fun F as H p q vs Q w hi hY hq r z => by
  cases r
  refine ⟨p, q, y, past, rfl, hY.up w.fro, hz, fun e xs H' s ne he hx => ?_⟩
  obtain ⟨w', s'⟩ := w.same s
  exact z _ _ _ _ _ _ h s' w' (.d (.lst (SqL.of (by rw [absF_new ne]; exact he)) (w'.immAll (imm_nRows _) hx)))
theorem ym_faultsD (h : k (.d (.list y.wrong)) cs) : YM K C cy D (spYFaults K D C cy) X i y past [] cs k := fun F as H p q vs Q w hi hY hq r z => by
  cases r
  have im : immAll y.wrong = true := by
    obtain ⟨_, _, _, _, _, _, Y⟩ := hY
    exact Y.lev.im
  refine ⟨p, q, y, past, rfl, hY.up w.fro, fun l xs nl hx => ?_⟩
  obtain ⟨w', s'⟩ := w.same (Same.new (o := .lst xs) nl)
  exact z _ _ _ _ _ _ h s' w' (.d (.lst (SqL.of (by rw [absF_new nl]; exact upd_same)) (w'.immAll im ((Same.new nl).dpAll hx))))
end
end Y

namespace Y
open PySem L2
def spAdd (K : PySem.W.Frag) (C : Addr) : Sp := fun vs H Q _ => ∃ (a b : Addr) (ds es : List PyData), vs = [.ref a, .ref b] ∧ ScrAt K C H a ds ∧ ScrAt K C H b es ∧ Row (ds ++ es) ∧ ∀ c H', H c = none → Same H H' → ScrAt K C H' c (ds ++ es) → Q (.ref c) H'
def spWithout (K : PySem.W.Frag) (C : Addr) : Sp := fun vs H Q _ => ∃ (a : Addr) (ds : List PyData) (i : Nat), vs = [.ref a, .int i] ∧ ScrAt K C H a ds ∧ Row ds ∧ i < ds.length ∧ ∀ c H', H c = none → Same H H' → ScrAt K C H' c (ds.take i ++ ds.drop (i + 1)) → Q (.ref c) H'
section
variable {P : Program} {w : World} {K : PySem.W.Frag} {mg : Str → Option Value} {base : Heap}
/-- a new script -/
theorem scr_made {C x dx : Addr} {H H' : Hp} {v : V} {ds : List PyData} (nx : H x = none) (ndx : H dx = none) (hv : Dp K H v (.tuple ds)) (h : H' x = some (.ins C dx (kf v)))
    (k : ∀ b o, (upd (upd H dx (.own x)) x (.ins C dx [])) b = some o → b ≠ x → H' b = some o) : Same H H' ∧ ScrAt K C H' x ds := by
  have s := Same.made nx ndx k
  exact ⟨s, dx, v, h, s.dp hv⟩
theorem same_ins {C x dx : Addr} {H : Hp} {fs : List (Str × V)} (nx : H x = none) (ndx : H dx = none) : Same H (upd (upd H dx (.own x)) x (.ins C dx fs)) := fun b o e => by
  rw [upd_ne (ne_of_none e nx), upd_ne (ne_of_none e ndx)]; exact e
end
/-! ### the text of a script -/
def strD : PyData → Str
  | .str s => s
  | _ => ""
def wordsD : PyData → List Str
  | .tuple ds => ds.map strD
  | _ => []
def stepText (d : PyData) : Str := Txt.join " " (wordsD d)
def rowText (ds : List PyData) : Str := if ds = [] then "nothing" else Txt.join ", " (ds.map stepText)
theorem step_words : ∀ d ∈ STEPSD, d = .tuple ((wordsD d).map .str) ∧ ((wordsD d).map (·.length)).sum + (wordsD d).length * 1 ≤ 30 ∧ (stepText d).length ≤ 30 := by
  intro d hd
  simp only [STEPSD, List.mem_cons, List.not_mem_nil, or_false] at hd
  rcases hd with rfl | rfl | rfl | rfl | rfl | rfl | rfl | rfl | rfl | rfl | rfl | rfl <;> (refine ⟨rfl, ?_, ?_⟩ <;> decide +kernel)
theorem dp_strs {K : PySem.W.Frag} {H : Hp} : ∀ {xs : List V} {ys : List Str}, DpAll K H xs (ys.map .str) → xs = ys.map V.str
  | _, [], .nil => rfl
  | _, y :: ys, .cons h t => by rw [h.str_inv, dp_strs t]; rfl
theorem sum_le {n : Nat} : ∀ {ys : List Str}, (∀ y ∈ ys, y.length ≤ n) → (ys.map (·.length)).sum ≤ n * ys.length
  | [], _ => by simp
  | y :: ys, h => by
    have h1 := h y (by simp)
    have h2 := sum_le (ys := ys) fun x hx => h x (List.mem_cons_of_mem y hx)
    rw [List.map_cons, List.sum_cons, List.length_cons, Nat.mul_add]
    omega
/-- " ".join(step) -/
theorem step_join {K : PySem.W.Frag} {H : Hp} {Q : VK} {v : V} {d : PyData} (hd : d ∈ STEPSD) (hv : Dp K H v d) (q : Q (.str (stepText d)) H) : rJoin K (.str " ") [v] H Q := by
  obtain ⟨e, hl, _⟩ := step_words d hd
  rw [e] at hv
  obtain ⟨a, xs, rfl, ha, hxs⟩ := hv.tup_inv
  rw [dp_strs hxs] at ha
  exact ⟨_, a, wordsD d, rfl, rfl, .inr ha, Nat.le_trans hl (by decide), q⟩
end Y

/-! # scripts as pure values -/
namespace Y
open PySem L2
local macro_rules | `(tactic| walk_at "a") => `(tactic| repeat (first
  | (with_reducible apply ev_int) | (with_reducible apply ev_str) | (with_reducible apply ev_bl) | (with_reducible apply ev_non) | (with_reducible apply ev_ty)
  | ((with_reducible apply ev_var); · rfl)
  | (with_reducible apply ev_op) | (with_reducible apply ev_un) | (with_reducible apply evs_nil) | (with_reducible apply evs_cons) | (with_reducible apply ev_cb) | (with_reducible apply ev_if)
  | (with_reducible apply et_test) | (with_reducible apply et_B) | (with_reducible apply et_and) | (with_reducible apply et_or) | (with_reducible apply et_not)
  | (with_reducible apply ex_seq) | (with_reducible apply ex_name) | (with_reducible apply ex_to) | (with_reducible apply ex_ret) | (with_reducible apply ex_if) | (with_reducible apply ex_drop) | (with_reducible apply ex_retN) | (with_reducible apply ex_next)
  | (with_reducible apply ex_par) | (with_reducible apply ex_par3) | (with_reducible apply eg_sub) | (with_reducible apply eg_name)
  | (with_reducible apply o_int) | (with_reducible apply o_bl) | (with_reducible apply o1_neg)
  | (with_reducible apply ev_andV) | (with_reducible apply ev_orV) | (with_reducible apply ev_notV)
  | (with_reducible apply ev_sl) | (with_reducible apply eo_part) | (with_reducible apply eo_no) | (with_reducible apply ev_bm) | (with_reducible apply ev_bm0)
  | (with_reducible apply ite_f) | (with_reducible apply ite_t) | (with_reducible apply ev_tupD) | (with_reducible apply ev_chain)
  | ((with_reducible apply o_ixL); (· rfl); (· rfl)) | ((with_reducible apply o_ixT); (· rfl); (· rfl))
  | ((with_reducible apply o_eq); (· rfl); (· rfl); (· rfl)) | ((with_reducible apply o_ne); (· rfl); (· rfl); (· rfl))
  | (with_reducible apply o_isN) | (with_reducible apply o_notN)
  | (with_reducible apply on_int) | (with_reducible apply on_intB) | (with_reducible apply on_max) | (with_reducible apply on_min) | (with_reducible apply on_abs)
  | ((with_reducible apply on_lenL); (· rfl)) | ((with_reducible apply on_lenT); (· rfl)) | ((with_reducible apply on_isD); (· rfl); (· decide))
  | ((with_reducible apply isSub); (· rfl); (· rfl)) | (with_reducible apply isB) | (with_reducible apply isI) | (with_reducible apply is2) | (with_reducible apply is3) | (with_reducible apply isI1) | (with_reducible apply isI2) | (with_reducible apply isT) | (with_reducible apply isL) | (with_reducible apply isScr) | ((with_reducible apply isDs); (· rfl); (· rfl))
  | ((with_reducible apply o_inT); (· rfl); (· rfl); (· decide +kernel); (· decide +kernel)) | ((with_reducible apply o_eqD); (· rfl); (· rfl); (· decide +kernel); (· decide +kernel))
  | ((with_reducible apply iteT'); · decide +kernel) | ((with_reducible apply iteF'); · decide +kernel)))
section
variable {K : PySem.W.Frag} {C : Addr} {F F' H H' : Hp} {as as' : Own} {cs cs' cs1 : List Cell} {E : AEnv} {k : AV → List Cell → Prop} {x y : AV} {te : TE} {tas : TA} {X : XK}
theorem Row.immA {ds : List PyData} (r : Row ds) : immAll ds = true := imm_all fun d hd => (step_is d (r.st d hd)).2.2.1
theorem ev_kept (c : Cls K C) (n : NoAttr K C "kept_steps") (h : Ev K C E cs te fun x cs1 => IsScr x fun ds => k (.d (.tuple ds)) cs1) : Ev K C E cs (tFld K te "kept_steps") k := fun F as H σ Q w e z => by
  refine h F as H σ _ w e fun x cs1 v F1 as1 H1 ⟨ds, hx, h1⟩ s1 w1 r1 => ?_
  subst hx
  cases r1 with | scr hs =>
  obtain ⟨dx, u, h2, h3⟩ := hs
  exact ⟨_, C, dx, _, u, rfl, w1.fro _ _ h2, c, n, kf_get u, z _ cs1 u F1 as1 H1 h1 s1 w1 (.d h3)⟩
/-- Script(steps) -/
theorem ev_makeScr (h : Evs K C E cs tas fun xs cs1 => ∃ ds, xs = [.d (.tuple ds)] ∧ Row ds ∧ k (.scr ds) cs1) : Ev K C E cs (tMake C (spInit K C) [] X tas) k := fun F as H σ Q w e z => by
  refine h F as H σ _ w e fun xs cs1 vs F1 as1 H1 ⟨ds, hx, hr, h1⟩ s1 w1 r1 x dx nx ndx nex => ?_
  subst hx
  cases r1 with | cons r1 r2 =>
  cases r2
  cases r1 with | d r1 =>
  refine ⟨x, dx, _, ds, rfl, upd_same, (same_ins nx ndx).dp (w1.fro.dp r1), hr, fun H2 h2 k2 => ⟨rfl, ?_⟩⟩
  obtain ⟨s2, sc⟩ := scr_made nx ndx (w1.fro.dp r1) h2 k2
  exact (Kt.later z s1).newS w1 s2 nx sc hr.immA h1
/-- a method of a script that gives a new one -/
theorem ev_scrM {m : Str} {sp : Sp} {te : TE} (P : List PyData → List AV → List Cell → List PyData → Prop) (hm : m ≠ "kept_steps")
    (hsp : ∀ F as H cs a ds xs vs rs (Q : VK), Wd K C F as cs H → ScrAt K C H a ds → ARs K C F as xs vs → P ds xs cs rs → (∀ c H', H c = none → Same H H' → ScrAt K C H' c rs → Q (.ref c) H') → sp (.ref a :: vs) H Q X)
    (h : Ev K C E cs te fun x cs1 => IsScr x fun ds => Evs K C E cs1 tas fun xs cs2 => ∃ rs, P ds xs cs2 rs ∧ Row rs ∧ k (.scr rs) cs2) : Ev K C E cs (tMeth C m sp [] X te tas) k := fun F as H σ Q w e z => by
  refine h F as H σ _ w e fun x cs1 v F1 as1 H1 ⟨ds, hx, h1⟩ s1 w1 r1 => ?_
  subst hx
  cases r1 with | scr hs =>
  obtain ⟨dx, u, h2, h3⟩ := hs
  refine ⟨_, dx, _, rfl, w1.fro _ _ h2, kf_no _ hm, ?_⟩
  refine h1 F1 as1 H1 σ _ w1 (e.mono s1.f s1.pre) fun xs cs2 vs F2 as2 H2 ⟨rs, hp, hr, hk⟩ s2 w2 r2 => ?_
  rw [List.append_nil]
  refine hsp F2 as2 H2 cs2 _ ds xs vs rs Q w2 ⟨dx, u, w2.fro _ _ (s2.f _ _ h2), w2.fro.dp (s2.f.dp h3)⟩ r2 hp fun c H' nc s sc => ?_
  exact (Kt.later z (s1.tr s2)).newS w2 s nc sc hr.immA hk
theorem ev_without {te : TE} {m : Str} (hm : m ≠ "kept_steps") (h : Ev K C E cs te fun x cs1 => IsScr x fun ds => Evs K C E cs1 tas fun xs cs2 => ∃ i : Nat, xs = [.d (.int i)] ∧ Row ds ∧ i < ds.length ∧ k (.scr (ds.take i ++ ds.drop (i + 1))) cs2) : Ev K C E cs (tMeth C m (spWithout K C) [] X te tas) k := by
  refine ev_scrM (fun ds xs _ rs => ∃ i : Nat, xs = [.d (.int i)] ∧ Row ds ∧ i < ds.length ∧ rs = ds.take i ++ ds.drop (i + 1)) hm (fun F as H cs a ds xs vs rs Q w hs r hp q => ?_) (fun F as H σ Q w e z => h F as H σ Q w e fun x cs1 v F' as' H' ⟨ds, hx, hE⟩ => z x cs1 v F' as' H' ⟨ds, hx, fun F as H σ Q w e z => hE F as H σ Q w e fun xs cs2 vs F' as' H' ⟨i, h1, h2, h3, h4⟩ => z xs cs2 vs F' as' H' ⟨_, ⟨i, h1, h2, h3, rfl⟩, ⟨fun d hd => ?_, ?_⟩, h4⟩⟩)
  · obtain ⟨i, rfl, hr, hi, rfl⟩ := hp
    cases r with | cons r1 r2 =>
    cases r2
    exact ⟨a, ds, i, by rw [r1.int], hs, hr, hi, q⟩
  · rcases List.mem_append.mp hd with hd | hd
    · exact h2.st d (List.mem_of_mem_take hd)
    · exact h2.st d (List.mem_of_mem_drop hd)
  · have := h2.len
    rw [List.length_append, List.length_take, List.length_drop]; omega
theorem o_addScr {ds es : List PyData} (hr : Row (ds ++ es)) (h : k (.scr (ds ++ es)) cs) : O2 K C (rAddO C (spAdd K C) X) (.scr ds) (.scr es) cs k := fun F as H v u Q w r1 r2 q => by
  cases r1 with | scr h1 =>
  cases r2 with | scr h2 =>
  obtain ⟨dx, v1, h3, h4⟩ := h1
  obtain ⟨dy, v2, h5, h6⟩ := h2
  refine ⟨_, dx, _, _, dy, _, rfl, rfl, w.fro _ _ h3, w.fro _ _ h5, _, _, ds, es, rfl, ⟨dx, v1, w.fro _ _ h3, w.fro.dp h4⟩, ⟨dy, v2, w.fro _ _ h5, w.fro.dp h6⟩, hr, fun c H' nc s sc => ⟨⟨_, rfl⟩, ?_⟩⟩
  exact q.newS w s nc sc hr.immA h
def ApWhole : ASp := fun xs cs k => ∃ x t, xs = [x] ∧ tyA x cs = some t ∧ k (.d (.bool (t == "int"))) cs
def ApIsStep : ASp := fun xs cs k => ∃ x d, xs = [x] ∧ datOf x cs = some d ∧ SeqAt.shaped d = true ∧ (∀ ds, d = .tuple ds → ds.length ≤ 1000) ∧ k (.d (.bool (isStepD d))) cs
/-- the callee's world, read as its own -/
theorem spA_kt {A : ASp} {vs : List V} {H : Hp} {Q : VK} {X : XK} (h : spA K C A vs H Q X) : ∃ F as cs xs k, Wd K C F as cs H ∧ ARs K C F as xs vs ∧ A xs cs k ∧ Kt K C F as H k Q := by
  obtain ⟨F, as, cs, xs, k, h1, h2, h3, h4⟩ := h
  exact ⟨F, as, cs, xs, k, h1, h2, h3, fun z cs' w F' as' H' a b c d => h4 z cs' w F' as' H' a b c d⟩
end
def ApWithStep : ASp := fun xs cs k => ∃ (ds : List PyData) (d : PyData) (i : Nat), xs = [.scr ds, .d (.int i), .d d] ∧ cs = [] ∧ Row ds ∧ i ≤ ds.length ∧ ds.length < 12 ∧ d ∈ STEPSD ∧ k (.scr (ds.take i ++ [d] ++ ds.drop i)) []
theorem ev_whole {K : PySem.W.Frag} {C : Addr} {E : AEnv} {cs : List Cell} {tas : TA} {k : AV → List Cell → Prop} {X : XK} (h : Evs K C E cs tas fun xs cs1 => ∃ d, xs = [.d d] ∧ k (.d (.bool (tyD d == "int"))) cs1) : Ev K C E cs (tCall (spA K C ApWhole) [] X tas) k := ev_callD fun F as H σ Q w e z => h F as H σ Q w e fun xs cs1 v F' as' H' ⟨d, hx, hk⟩ => z xs cs1 v F' as' H' ⟨[d], by rw [hx]; rfl, _, tyD d, rfl, rfl, by
  show k _ (putC cs1 [] [])
  simp only [putC, List.append_nil]; exact hk⟩
theorem ev_isStep {K : PySem.W.Frag} {C : Addr} {E : AEnv} {cs : List Cell} {tas : TA} {k : AV → List Cell → Prop} {X : XK} (h : Evs K C E cs tas fun xs cs1 => ∃ d, xs = [.d d] ∧ SeqAt.shaped d = true ∧ (∀ ds, d = .tuple ds → ds.length ≤ 1000) ∧ k (.d (.bool (isStepD d))) cs1) : Ev K C E cs (tCall (spA K C ApIsStep) [] X tas) k := ev_callD fun F as H σ Q w e z => h F as H σ Q w e fun xs cs1 v F' as' H' ⟨d, hx, hs, hl, hk⟩ => z xs cs1 v F' as' H' ⟨[d], by rw [hx]; rfl, _, d, rfl, rfl, hs, hl, by
  show k _ (putC cs1 [] [])
  simp only [putC, List.append_nil]; exact hk⟩
section
variable {P : Program} {w : World} {K : PySem.W.Frag} {mg : Str → Option Value} {base : Heap}
theorem oa_whole (T : Tx K mg) (C : Addr) : FnOk P w K mg base CX0 1 T.is_whole.a T.is_whole.fd ["thing"] (spA K C ApWhole) := (ok_is_whole T).imp fun vs H Q E h => by
  obtain ⟨F, as, cs, xs, k, wd, ar, ⟨x, t, rfl, ht, hk⟩, q⟩ := spA_kt h
  cases ar with | cons r1 r2 =>
  cases r2
  obtain ⟨h1, h2⟩ := tyA_at ht wd r1
  exact ⟨_, t, rfl, h1, h2, q.now hk wd (.d (.bl _))⟩
theorem oa_is_step (T : Tx K mg) (C : Addr) : FnOk P w K mg base CX0 1 T.is_step.a T.is_step.fd ["thing"] (spA K C ApIsStep) := (ok_is_step T).imp fun vs H Q E h => by
  obtain ⟨F, as, cs, xs, k, wd, ar, ⟨x, d, rfl, hd, hs, hl, hk⟩, q⟩ := spA_kt h
  cases ar with | cons r1 r2 =>
  cases r2
  exact ⟨_, rfl, .inl ⟨d, datOf_at hd wd r1, hs, hl, fun H' s => q.same wd s hk (.d (.bl _))⟩⟩
end
end Y

/-! # law_k69: calls by name -/
namespace Y
open PySem L2 M
local macro_rules | `(tactic| walk_at "a") => `(tactic| repeat (first
  | (with_reducible apply ev_int) | (with_reducible apply ev_str) | (with_reducible apply ev_bl) | (with_reducible apply ev_non) | (with_reducible apply ev_ty)
  | ((with_reducible apply ev_var); · rfl)
  | (with_reducible apply ev_op) | (with_reducible apply ev_un) | (with_reducible apply evs_nil) | (with_reducible apply evs_cons) | (with_reducible apply ev_cb) | (with_reducible apply ev_if)
  | (with_reducible apply et_test) | (with_reducible apply et_B) | (with_reducible apply et_and) | (with_reducible apply et_or) | (with_reducible apply et_not)
  | (with_reducible apply ex_seq) | (with_reducible apply ex_name) | (with_reducible apply ex_to) | (with_reducible apply ex_ret) | (with_reducible apply ex_if) | (with_reducible apply ex_drop) | (with_reducible apply ex_retN) | (with_reducible apply ex_next)
  | (with_reducible apply ex_par) | (with_reducible apply ex_par3) | (with_reducible apply eg_sub) | (with_reducible apply eg_name)
  | (with_reducible apply o_int) | (with_reducible apply o_bl) | (with_reducible apply o1_neg)
  | (with_reducible apply ev_andV) | (with_reducible apply ev_orV) | (with_reducible apply ev_notV)
  | (with_reducible apply ev_sl) | (with_reducible apply eo_part) | (with_reducible apply eo_no) | (with_reducible apply ev_bm) | (with_reducible apply ev_bm0)
  | (with_reducible apply ite_f) | (with_reducible apply ite_t) | (with_reducible apply ev_tupD) | (with_reducible apply ev_chain)
  | ((with_reducible apply o_ixL); (· rfl); (· rfl)) | ((with_reducible apply o_ixT); (· rfl); (· rfl))
  | ((with_reducible apply o_eq); (· rfl); (· rfl); (· rfl)) | ((with_reducible apply o_ne); (· rfl); (· rfl); (· rfl))
  | (with_reducible apply o_isN) | (with_reducible apply o_notN)
  | (with_reducible apply on_int) | (with_reducible apply on_intB) | (with_reducible apply on_max) | (with_reducible apply on_min) | (with_reducible apply on_abs)
  | ((with_reducible apply on_lenL); (· rfl)) | ((with_reducible apply on_lenT); (· rfl)) | ((with_reducible apply on_isD); (· rfl); (· decide))
  | ((with_reducible apply isSub); (· rfl); (· rfl)) | (with_reducible apply isB) | (with_reducible apply isI) | (with_reducible apply is2) | (with_reducible apply is3) | (with_reducible apply isI1) | (with_reducible apply isI2) | (with_reducible apply isT) | (with_reducible apply isL) | (with_reducible apply isScr) | ((with_reducible apply isDs); (· rfl); (· rfl))
  | ((with_reducible apply o_inT); (· rfl); (· rfl); (· decide +kernel); (· decide +kernel)) | ((with_reducible apply o_eqD); (· rfl); (· rfl); (· decide +kernel); (· decide +kernel))
  | ((with_reducible apply iteT'); · decide +kernel) | ((with_reducible apply iteF'); · decide +kernel)))
def standD (y : YS) : List PyData := [.list (oRows y.led), .list (nRows y.led), .list y.wrong, .int (y.story.filter isRun).length, .int y.story.length, .tuple y.sc, tD (madeNo y.led.later 1)]
theorem flat_stand {y : YS} (h : YOk y) (hr : Row y.sc) : Flat 3 (.list (standD y)) := flat_list fun d hd => by
  simp only [standD, List.mem_cons, List.not_mem_nil, or_false] at hd
  rcases hd with rfl | rfl | rfl | rfl | rfl | rfl | rfl
  · exact flat_oRows _
  · exact flat_nRows _
  · exact h.wr
  · exact flt_int.mono (by decide)
  · exact flt_int.mono (by decide)
  · exact flat_tup fun d hd => flat_step (hr.st d hd)
  · exact flat_tD.mono (by decide)
section
variable {P : Program} {w : World} {K : PySem.W.Frag} {mg : Str → Option Value} {base : Heap}
abbrev yc (T : Tx K mg) (y : YS) (past : List YS) : Cell := yrC K (c3 T) T.c_Script T.c_Years y past
def ApStand (T : Tx K mg) : ASp := fun xs cs k => ∃ (y : YS) (past : List YS), xs = [.cel 0] ∧ cs = [yc T y past] ∧ YOk y ∧ y.story.length ≤ 600 ∧ k (.d (.list (standD y))) [yc T y past]
def ApCalled (T : Tx K mg) : ASp := fun xs cs k => ∃ (ws : List PyData) (B : Int) (y : YS) (past : List YS) (d1 d2 : List PyData), xs = [.cel 0, .cel 1, .cel 2, .cel 3] ∧ cs = [.l ws, yc T y past, yc T y past, .a [.scr d1, .scr d2]] ∧ PotD ws B ∧ B < 2 ^ 30 ∧ YOk y ∧ Row y.sc ∧ Row d1 ∧ Row d2 ∧ y.story.length ≤ 500 ∧ past.length ≤ 500 ∧
  ∀ ws' y', PotD ws' (B + 20) → YOk y' → Row y'.sc → y'.story.length ≤ y.story.length + 2 → k (.d (.bool true)) [.l ws', yc T y' (past ++ [y]), yc T y' (past ++ [y]), .a [.scr d1, .scr d2]]
theorem ok_stand (T : Tx K mg) : FnOk P w K mg base CX0 6 T.stand.a T.stand.fd ["years"] (spA K T.c_Script (ApStand T)) := by
  have G_Years_old := ok_Years_old (P := P) (w := w) (base := base) T
  have G_Years_new := ok_Years_new (P := P) (w := w) (base := base) T
  have G_Years_faults := ok_Years_faults (P := P) (w := w) (base := base) T
  have G_Years_runs := ok_Years_runs (P := P) (w := w) (base := base) T
  have G_Years_len := ok_Years_len (P := P) (w := w) (base := base) T
  have G_Years_script := ok_Years_script (P := P) (w := w) (base := base) T
  have G_Years_made_of := ok_Years_made_of (P := P) (w := w) (base := base) T
  have G_Script_steps := ok_Script_steps (P := P) (w := w) (base := base) T
  refine T.stand.F.ok sc_stand (fun vs H Q E h => spA_len (l := 1) (fun xs cs k ⟨_, _, h, _⟩ => by rw [h]; rfl) h) (fun cdv A outer s H vs Q E hr h => ?_)
  obtain ⟨F, as, cs, xs, k, wd, ar, ⟨y, past, rfl, rfl, hy, hz, hk⟩, q⟩ := h
  refine ⟨_, (pss_one (ps_ret (pe_lst (pa_cons (pe_meth0 (pv 0) T.cl_Years T.Years_old.m G_Years_old (hr.mono (by first | decide | omega)) T.Years_old.b .nil pass0) (pa_cons (pe_meth0 (pv 0) T.cl_Years T.Years_new.m G_Years_new (hr.mono (by first | decide | omega)) T.Years_new.b .nil pass0) (pa_cons (pe_meth0 (pv 0) T.cl_Years T.Years_faults.m G_Years_faults (hr.mono (by first | decide | omega)) T.Years_faults.b .nil pass0) (pa_cons (pe_prop (pv 0) T.cl_Years T.Years_runs.po G_Years_runs (hr.mono (by first | decide | omega)) T.Years_runs.b .nil pass0 rfl) (pa_cons (pe_callB (call_lenO T.Years_len.spc G_Years_len (hr.mono (by first | decide | omega)) T.Years_len.b pass0) (by rfl) T.b_len (by decide +kernel) (pa_cons (pv 0) pa_nil)) (pa_cons (pe_meth0 (pe_prop (pv 0) T.cl_Years T.Years_script.po G_Years_script (hr.mono (by first | decide | omega)) T.Years_script.b .nil pass0 rfl) T.cl_Script T.Script_steps.m G_Script_steps (hr.mono (by first | decide | omega)) T.Script_steps.b .nil pass0) (pa_cons (pe_meth (pv 0) T.cl_Years T.Years_made_of.m G_Years_made_of (hr.mono (by first | decide | omega)) T.Years_made_of.b .nil pass0 (pa_cons pe_int pa_nil)) pa_nil)))))))))), ?_⟩
  refine body_go [some (.cel 0)] (n := 1) rfl rfl wd ar ?_ q
  walk_at "a"
  refine ev_lstF ?_
  walk_at "a"
  refine ev_yM0 (D := c3 T) (fun _ _ _ _ _ => rfl) ?_
  walk_at "a"
  refine ⟨0, y, past, rfl, rfl, ym_oldD (by omega) ?_⟩
  walk_at "a"
  refine ev_yM0 (D := c3 T) (fun _ _ _ _ _ => rfl) ?_
  walk_at "a"
  refine ⟨0, y, past, rfl, rfl, ym_newD (by omega) ?_⟩
  walk_at "a"
  refine ev_yM0 (D := c3 T) (fun _ _ _ _ _ => rfl) ?_
  walk_at "a"
  refine ⟨0, y, past, rfl, rfl, ym_faultsD ?_⟩
  walk_at "a"
  refine ev_yP (D := c3 T) ?_
  walk_at "a"
  refine ⟨0, y, past, rfl, rfl, ym_runs (by omega) ?_⟩
  walk_at "a"
  refine on_lenY rfl (by omega) ?_
  walk_at "a"
  refine ev_steps (fun a dx v H Q h q => ⟨a, dx, v, rfl, h, q⟩) (by decide) ?_
  walk_at "a"
  refine ev_yP (D := c3 T) ?_
  walk_at "a"
  refine ⟨0, y, past, rfl, rfl, ym_script ?_⟩
  walk_at "a"
  refine ev_yM (D := c3 T) (fun _ _ _ _ _ => rfl) ?_
  walk_at "a"
  refine ⟨0, y, past, rfl, rfl, ?_⟩
  walk_at "a"
  refine ⟨y, past, rfl, ym_made (by omega) ⟨by decide, by have := hy.el; omega⟩ ?_⟩
  walk_at "a"
  show Rt 1 k _ _
  exact Rt.here hk (Nat.le_refl 1) rfl rfl
theorem ok_called (T : Tx K mg) : FnOk P w K mg base CX0 12 T.called.a T.called.fd ["jar", "one", "two", "works"] (spA K T.c_Script (ApCalled T)) := by
  have G_draw := ok_draw (P := P) (w := w) (base := base) T T.c_Script
  have G_act := ok_act (P := P) (w := w) (base := base) T T.c_Script
  have G_Years_do := ok_Years_do (P := P) (w := w) (base := base) T
  have G_Years_do_all := ok_Years_do_all (P := P) (w := w) (base := base) T
  have G_Years_change := ok_Years_change (P := P) (w := w) (base := base) T
  refine T.called.F.ok sc_called (fun vs H Q E h => spA_len (l := 4) (fun xs cs k ⟨_, _, _, _, _, _, h, _⟩ => by rw [h]; rfl) h) (fun cdv A outer s H vs Q E hr h => ?_)
  obtain ⟨F, as, cs, xs, k, wd, ar, ⟨ws, B, y, past, d1, d2, rfl, rfl, hp, hB, hy, hrow, hr1, hr2, hz, hpz, hk⟩, q⟩ := h
  refine ⟨_, (pss_cons (ps_set (i := 4) sc_called.nd rfl (Or.inl rfl) (pe_call G_draw (hr.mono (by first | decide | omega)) rfl T.draw.g T.draw.F.kp T.draw.b .nil pass0 (pa_cons (pv 0) (pa_cons pe_int pa_nil))))
  (pss_cons (ps_if (pt_cmpR op_lt (pv 4) pe_int (nomark _))
  (pss_cons (ps_set (i := 5) sc_called.nd rfl (Or.inl rfl) (pe_call G_act (hr.mono (by first | decide | omega)) rfl T.act.g T.act.F.kp T.act.b .nil pass0 (pa_cons (pv 0) pa_nil)))
  (pss_one (ps_ret (pe_cmpR (op_eqAK K (hu65 hr)) (pe_methN (pv 1) T.cl_Years T.Years_do.m G_Years_do (hr.mono (by first | decide | omega)) T.kb_Years_do_1 pass0 (pk_cons (pv 5) pk_nil)) (pe_meth (pv 2) T.cl_Years T.Years_do.m G_Years_do (hr.mono (by first | decide | omega)) T.Years_do.b .nil pass0 (pa_cons (pv 5) pa_nil)) (nomark _)))))
  pss_nil)
  (pss_cons (ps_if (pt_cmpR op_eq (pv 4) pe_int (nomark _))
  (pss_cons (ps_set (i := 6) sc_called.nd rfl (Or.inl rfl) (pe_lst (pa_cons (pe_call G_act (hr.mono (by first | decide | omega)) rfl T.act.g T.act.F.kp T.act.b .nil pass0 (pa_cons (pv 0) pa_nil)) (pa_cons (pe_call G_act (hr.mono (by first | decide | omega)) rfl T.act.g T.act.F.kp T.act.b .nil pass0 (pa_cons (pv 0) pa_nil)) pa_nil))))
  (pss_one (ps_ret (pe_cmpR (op_eqDK K (hu65 hr)) (pe_methN (pv 1) T.cl_Years T.Years_do_all.m G_Years_do_all (hr.mono (by first | decide | omega)) T.kb_Years_do_all_1 pass0 (pk_cons (pe_callTy (call_lstK K) (by rfl) T.b_list (by decide +kernel) (pa_cons (pv 6) pa_nil)) pk_nil)) (pe_meth (pv 2) T.cl_Years T.Years_do_all.m G_Years_do_all (hr.mono (by first | decide | omega)) T.Years_do_all.b .nil pass0 (pa_cons (pv 6) pa_nil)) (nomark _)))))
  pss_nil)
  (pss_cons (ps_set (i := 7) sc_called.nd rfl (Or.inl rfl) (pe_ix (ix_listK K) (pv 3) (pe_call G_draw (hr.mono (by first | decide | omega)) rfl T.draw.g T.draw.F.kp T.draw.b .nil pass0 (pa_cons (pv 0) (pa_cons pe_int pa_nil))) (fun _ _ => rfl)))
  (pss_one (ps_ret (pe_and (pe_cmpR op_isN (pe_meth (pv 1) T.cl_Years T.Years_change.m G_Years_change (hr.mono (by first | decide | omega)) T.Years_change.b .nil pass0 (pa_cons (pv 7) pa_nil)) pe_non (nomark _)) (pe_one (pe_cmpR op_isN (pe_meth (pv 2) T.cl_Years T.Years_change.m G_Years_change (hr.mono (by first | decide | omega)) T.Years_change.b .nil pass0 (pa_cons (pv 7) pa_nil)) pe_non (nomark _)))))))))), ?_⟩
  refine body_go [some (.cel 0), some (.cel 1), some (.cel 2), some (.cel 3), none, none, none, none] (n := 4) rfl rfl wd ar ?_ q
  walk_at "a"
  refine ev_draw ?_
  walk_at "a"
  refine ⟨0, 5, ws, B, rfl, rfl, hp, by omega, by decide, by decide, fun r ws1 r0 r1 hp1 => ?_⟩
  walk_at "a"
  refine iteB (fun c => ?_) (fun c => ?_)
  · walk_at "a"
    refine ev_act ?_
    walk_at "a"
    refine ⟨0, ws1, _, rfl, rfl, hp1, by omega, fun e ws2 ⟨t, t0, t1, ha⟩ hp2 => ?_⟩
    obtain ⟨ok1, okm⟩ := act_ok hy t0 t1 ha
    walk_at "a"
    refine ev_yMN (D := c3 T) (fun _ _ => rfl) (fun _ _ _ _ _ => rfl) ?_
    walk_at "a"
    refine ⟨1, y, past, rfl, rfl, ?_⟩
    walk_at "a"
    refine ⟨rfl, y, past, rfl, ym_do ok1 okm (by omega) (by omega) ?_⟩
    walk_at "a"
    refine ev_yM (D := c3 T) (fun _ _ _ _ _ => rfl) ?_
    walk_at "a"
    refine ⟨2, y, past, rfl, rfl, ?_⟩
    walk_at "a"
    refine ⟨y, past, rfl, ym_do ok1 okm (by omega) (by omega) ?_⟩
    walk_at "a"
    refine o_eqA2 (o_eqD (a := y.tell e) (b := y.tell e) rfl rfl ((flat_tell y e).shaped (by decide)) ((flat_tell y e).shaped (by decide)) ?_)
    rw [(flat_tell y e).eqv]
    show Rt 4 k _ _
    exact Rt.here (hk ws2 (y.play e) (hp2.mono (by omega)) (hy.play e) hrow (by show (y.story ++ [e]).length ≤ _; simp)) (Nat.le_refl 4) rfl rfl
  · walk_at "a"
    refine iteB (fun c => ?_) (fun c => ?_)
    · walk_at "a"
      refine ev_lstD ?_
      walk_at "a"
      refine ev_act ?_
      walk_at "a"
      refine ⟨0, ws1, _, rfl, rfl, hp1, by omega, fun e ws2 ⟨t, t0, t1, ha⟩ hp2 => ?_⟩
      obtain ⟨ok1, okm⟩ := act_ok hy t0 t1 ha
      walk_at "a"
      refine ev_act ?_
      walk_at "a"
      refine ⟨0, ws2, _, rfl, rfl, hp2, by omega, fun e2 ws3 ⟨t2, t20, t21, ha2⟩ hp3 => ?_⟩
      obtain ⟨ok2, okm2⟩ := act_ok (hy.play e) t20 t21 ha2
      have oks : ∀ x ∈ [e, e2], okDeed x = true := fun x hx => by
        rcases List.mem_cons.mp hx with rfl | hx
        · exact ok1
        · rw [List.mem_singleton.mp hx]; exact ok2
      have oka : OkAll y.ws y.led [e, e2] := ⟨okm, okm2, trivial⟩
      walk_at "a"
      refine ev_yMN (D := c3 T) (fun _ _ => rfl) (fun _ _ _ _ _ => rfl) ?_
      walk_at "a"
      refine ⟨1, y, past, rfl, rfl, ?_⟩
      walk_at "a"
      refine on_lstL (ds := [dD e, dD e2]) rfl ?_
      walk_at "a"
      refine ⟨rfl, y, past, rfl, ym_doAll (es := [e, e2]) rfl oks oka (by show _ + 2 ≤ _; omega) (by omega) ?_⟩
      walk_at "a"
      refine ev_yM (D := c3 T) (fun _ _ _ _ _ => rfl) ?_
      walk_at "a"
      refine ⟨2, y, past, rfl, rfl, ?_⟩
      walk_at "a"
      refine ⟨y, past, rfl, ym_doAll (es := [e, e2]) rfl oks oka (by show _ + 2 ≤ _; omega) (by omega) ?_⟩
      walk_at "a"
      refine o_eqD (a := .list (y.tells [e, e2])) (b := .list (y.tells [e, e2])) rfl rfl ((flat_tells _ y).shaped (by decide)) ((flat_tells _ y).shaped (by decide)) ?_
      rw [(flat_tells [e, e2] y).eqv]
      show Rt 4 k _ _
      exact Rt.cut 4 (hk ws3 (y.all [e, e2]) (hp3.mono (by omega)) ((hy.play e).play e2) hrow (by show (y.story ++ [e] ++ [e2]).length ≤ _; simp)) (Nat.le_refl 4) rfl rfl
    · walk_at "a"
      refine ev_draw ?_
      walk_at "a"
      refine ⟨0, 2, ws1, _, rfl, rfl, hp1, by omega, by decide, by decide, fun a ws2 a0 a1 hp2 => ?_⟩
      obtain ⟨d, hd, hrd⟩ : ∃ d, atI [AV.scr d1, AV.scr d2] a = some (.scr d) ∧ Row d := by
        rcases (by omega : a = 0 ∨ a = 1) with rfl | rfl
        · exact ⟨d1, rfl, hr1⟩
        · exact ⟨d2, rfl, hr2⟩
      refine o_ixA (j := 3) rfl hd ?_
      walk_at "a"
      refine ev_yM (D := c3 T) (fun _ _ _ _ _ => rfl) ?_
      walk_at "a"
      refine ⟨1, y, past, rfl, rfl, ?_⟩
      walk_at "a"
      refine ⟨y, past, rfl, ym_change hrd (by omega) ?_⟩
      walk_at "a"
      refine ev_yM (D := c3 T) (fun _ _ _ _ _ => rfl) ?_
      walk_at "a"
      refine ⟨2, y, past, rfl, rfl, ?_⟩
      walk_at "a"
      refine ⟨y, past, rfl, ym_change hrd (by omega) ?_⟩
      walk_at "a"
      show Rt 4 k _ _
      exact Rt.here (hk ws2 { y with sc := d } (hp2.mono (by omega)) ⟨hy.snd, hy.el, hy.own, hy.wr⟩ hrd (by show y.story.length ≤ _; omega)) (Nat.le_refl 4) rfl rfl
end
section
variable {K : PySem.W.Frag} {mg : Str → Option Value} {E : AEnv} {cs : List Cell} {tas : TA} {k : AV → List Cell → Prop} {X : XK}
theorem ev_stand (T : Tx K mg) (h : Evs K T.c_Script E cs tas fun xs cs1 => ∃ (i : Nat) (y : YS) (past : List YS), xs = [.cel i] ∧ cs1[i]? = some (yc T y past) ∧ YOk y ∧ y.story.length ≤ 600 ∧ k (.d (.list (standD y))) cs1) : Ev K T.c_Script E cs (tCall (spA K T.c_Script (ApStand T)) [] X tas) k :=
  ev_call fun F as H σ Q w e z => h F as H σ Q w e fun xs cs1 v F' as' H' ⟨i, y, past, hx, hc, hy, hz, hk⟩ => z xs cs1 v F' as' H' ⟨[i], [.cel 0], [yc T y past],
    ⟨by simp, fun j hj => by rw [List.mem_singleton.mp hj]; exact (List.getElem?_eq_some_iff.mp hc).1, by rw [hx]; rfl, rfl, by rw [List.map_cons, hc]; rfl, rfl⟩, y, past, rfl, rfl, hy, hz, by
      show k (.d (.list (standD y))) (putC cs1 [i] [yc T y past])
      simp only [putC, List.append_nil]
      rw [set_same hc]; exact hk⟩
theorem ev_called (T : Tx K mg) (h : Evs K T.c_Script E cs tas fun xs cs1 => ∃ (ws : List PyData) (B : Int) (y : YS) (past : List YS) (d1 d2 : List PyData) (c4 : Cell), xs = [.cel 0, .cel 2, .cel 3, .cel 1] ∧ cs1 = [.l ws, .a [.scr d1, .scr d2], yc T y past, yc T y past, c4] ∧ PotD ws B ∧ B < 2 ^ 30 ∧ YOk y ∧ Row y.sc ∧ Row d1 ∧ Row d2 ∧ y.story.length ≤ 500 ∧ past.length ≤ 500 ∧
      ∀ ws' y', PotD ws' (B + 20) → YOk y' → Row y'.sc → y'.story.length ≤ y.story.length + 2 → k (.d (.bool true)) [.l ws', .a [.scr d1, .scr d2], yc T y' (past ++ [y]), yc T y' (past ++ [y]), c4]) : Ev K T.c_Script E cs (tCall (spA K T.c_Script (ApCalled T)) [] X tas) k :=
  ev_call fun F as H σ Q w e z => h F as H σ Q w e fun xs cs1 v F' as' H' ⟨ws, B, y, past, d1, d2, c4, hx, hc, hp, hB, hy, hr, hr1, hr2, hz, hpz, hk⟩ => z xs cs1 v F' as' H' ⟨[0, 2, 3, 1], [.cel 0, .cel 1, .cel 2, .cel 3], [.l ws, yc T y past, yc T y past, .a [.scr d1, .scr d2]],
    ⟨by decide, fun j hj => by
      rw [hc]
      simp only [List.mem_cons, List.not_mem_nil, or_false] at hj
      show j < 5
      omega, by rw [hx, hc]; rfl, rfl, by rw [hc]; rfl, rfl⟩, ws, B, y, past, d1, d2, rfl, rfl, hp, hB, hy, hr, hr1, hr2, hz, hpz, fun ws' y' h1 h2 h3 h4 => by
      rw [hc]
      exact hk ws' y' h1 h2 h3 h4⟩
end
section
variable {P : Program} {w : World} {K : PySem.W.Frag} {mg : Str → Option Value} {base : Heap}
def ApRight : ASp := fun xs cs k => ∃ ws : List PyData, xs = [.cel 0] ∧ cs = [.l ws] ∧ PotD ws 0 ∧ ∀ ws', k (.d (.bool true)) [.l ws']
def y2 (ds : List PyData) : YS := ((YS.init ds).play (.own 5)).play (.add 6 7)
def p2 (ds : List PyData) : List YS := [YS.init ds, (YS.init ds).play (.own 5)]
theorem y2_ok (ds : List PyData) : YOk (y2 ds) := ⟨⟨_, (Sound.init.play (ds.map wordsOf) (.own 5)).play (ds.map wordsOf) (.add 6 7)⟩, Nat.le_refl 1, ⟨_, List.mem_singleton_self _, rfl, rfl⟩, flat_list fun d hd => absurd hd List.not_mem_nil⟩
theorem ok_right (T : Tx K mg) : FnOk P w K mg base CX0 13 T.right.a T.right.fd ["jar"] (spA K T.c_Script ApRight) := by
  have G_draw := ok_draw (P := P) (w := w) (base := base) T T.c_Script
  have G_plan := ok_plan (P := P) (w := w) (base := base) T T.c_Script
  have G_stand := ok_stand (P := P) (w := w) (base := base) T
  have G_called := ok_called (P := P) (w := w) (base := base) T
  have G_Script_init := ok_Script_init (P := P) (w := w) (base := base) T
  have G_Years_init := ok_Years_init (P := P) (w := w) (base := base) T
  have G_Years_do := ok_Years_do (P := P) (w := w) (base := base) T
  have G_Years_made_of := ok_Years_made_of (P := P) (w := w) (base := base) T
  have G_Years_undo := ok_Years_undo (P := P) (w := w) (base := base) T
  refine T.right.F.ok sc_right (fun vs H Q E h => spA_len (l := 1) (fun xs cs k ⟨_, h, _⟩ => by rw [h]; rfl) h) (fun cdv A outer s H vs Q E hr h => ?_)
  obtain ⟨F, as, cs, xs, k, wd, ar, ⟨ws, rfl, rfl, hp, hk⟩, q⟩ := h
  refine ⟨_, (pss_cons (ps_set (i := 1) sc_right.nd rfl (Or.inl rfl) (pe_lst (pa_cons (pe_make T.mk_Script G_Script_init (hr.mono (by first | decide | omega)) rfl T.g_Script T.Script_init.b .nil pass0 (pa_cons (pe_call G_plan (hr.mono (by first | decide | omega)) rfl T.plan.g T.plan.F.kp T.plan.b .nil pass0 (pa_cons (pv 0) pa_nil)) pa_nil)) (pa_cons (pe_make T.mk_Script G_Script_init (hr.mono (by first | decide | omega)) rfl T.g_Script T.Script_init.b .nil pass0 (pa_cons (pe_call G_plan (hr.mono (by first | decide | omega)) rfl T.plan.g T.plan.F.kp T.plan.b .nil pass0 (pa_cons (pv 0) pa_nil)) pa_nil)) pa_nil))))
  (pss_cons (ps_par (i := 2) (j := 3) rfl sc_right.nd rfl rfl (by decide) rfl rfl (pa_cons (pe_make T.mk_Years G_Years_init (hr.mono (by first | decide | omega)) rfl T.g_Years T.Years_init.b .nil pass0 (pa_cons (pe_ix (ix_listK K) (pv 1) pe_int (fun _ _ => rfl)) pa_nil)) (pa_cons (pe_make T.mk_Years G_Years_init (hr.mono (by first | decide | omega)) rfl T.g_Years T.Years_init.b .nil pass0 (pa_cons (pe_ix (ix_listK K) (pv 1) pe_int (fun _ _ => rfl)) pa_nil)) pa_nil)) rfl)
  (pss_cons (ps_for PassesOwn.never rfl (pi_listK K (pe_lst (pa_cons (pv 2) (pa_cons (pv 3) pa_nil)))) (pg_name (i := 4) sc_right.nd rfl (Or.inl rfl))
  (pss_cons (ps_expr (pe_meth (pv 4) T.cl_Years T.Years_do.m G_Years_do (hr.mono (by first | decide | omega)) T.Years_do.b .nil pass0 (pa_cons (pe_tup (pa_cons pe_str (pa_cons pe_int pa_nil))) pa_nil)))
  (pss_one (ps_expr (pe_meth (pv 4) T.cl_Years T.Years_do.m G_Years_do (hr.mono (by first | decide | omega)) T.Years_do.b .nil pass0 (pa_cons (pe_tup (pa_cons pe_str (pa_cons pe_int (pa_cons pe_int pa_nil)))) pa_nil))))))
  (pss_cons (ps_for PassesOwn.never rfl (pi_range1 (by rfl) T.b_range (pa_cons (pe_call G_draw (hr.mono (by first | decide | omega)) rfl T.draw.g T.draw.F.kp T.draw.b .nil pass0 (pa_cons (pv 0) (pa_cons pe_int pa_nil))) pa_nil)) (pg_name (i := 5) sc_right.nd rfl (Or.inl rfl))
  (pss_cons (ps_if (pt_not (pt_val (pe_call G_called (hr.mono (by first | decide | omega)) rfl T.called.g T.called.F.kp T.called.b .nil pass0 (pa_cons (pv 0) (pa_cons (pv 2) (pa_cons (pv 3) (pa_cons (pv 1) pa_nil)))))))
  (pss_one (ps_ret pe_bl))
  pss_nil)
  (pss_cons (ps_if (PW.pt (pw_or (pt_cmpR (op_neAK K (hu65 hr)) (pe_call G_stand (hr.mono (by first | decide | omega)) rfl T.stand.g T.stand.F.kp T.stand.b .nil pass0 (pa_cons (pv 2) pa_nil)) (pe_call G_stand (hr.mono (by first | decide | omega)) rfl T.stand.g T.stand.F.kp T.stand.b .nil pass0 (pa_cons (pv 3) pa_nil)) (nomark _)) (pw_or1 (pt_cmpR (op_neAK K (hu65 hr)) (pe_methN (pv 2) T.cl_Years T.Years_made_of.m G_Years_made_of (hr.mono (by first | decide | omega)) T.kb_Years_made_of_1 pass0 (pk_cons pe_int pk_nil)) (pe_meth (pv 3) T.cl_Years T.Years_made_of.m G_Years_made_of (hr.mono (by first | decide | omega)) T.Years_made_of.b .nil pass0 (pa_cons pe_int pa_nil)) (nomark _)))))
  (pss_one (ps_ret pe_bl))
  pss_nil)
  (pss_one (ps_if (pt_cmpR op_eq (pe_call G_draw (hr.mono (by first | decide | omega)) rfl T.draw.g T.draw.F.kp T.draw.b .nil pass0 (pa_cons (pv 0) (pa_cons pe_int pa_nil))) pe_int (nomark _))
  (pss_cons (ps_expr (pe_meth0 (pv 2) T.cl_Years T.Years_undo.m G_Years_undo (hr.mono (by first | decide | omega)) T.Years_undo.b .nil pass0))
  (pss_cons (ps_expr (pe_meth0 (pv 3) T.cl_Years T.Years_undo.m G_Years_undo (hr.mono (by first | decide | omega)) T.Years_undo.b .nil pass0))
  (pss_one (ps_if (pt_cmpR (op_neAK K (hu65 hr)) (pe_call G_stand (hr.mono (by first | decide | omega)) rfl T.stand.g T.stand.F.kp T.stand.b .nil pass0 (pa_cons (pv 2) pa_nil)) (pe_call G_stand (hr.mono (by first | decide | omega)) rfl T.stand.g T.stand.F.kp T.stand.b .nil pass0 (pa_cons (pv 3) pa_nil)) (nomark _))
  (pss_one (ps_ret pe_bl))
  pss_nil))))
  pss_nil)))))
  (pss_one (ps_ret pe_bl)))))), ?_⟩
  refine body_go [some (.cel 0), none, none, none, none, none] (n := 1) rfl rfl wd ar ?_ q
  walk_at "a"
  refine ev_lst ?_
  walk_at "a"
  refine ev_makeScr ?_
  walk_at "a"
  refine ev_plan ?_
  walk_at "a"
  refine ⟨0, ws, 0, rfl, rfl, hp, by decide, fun d1 ws1 hr1 hp1 => ?_⟩
  walk_at "a"
  refine ⟨d1, rfl, hr1, ?_⟩
  walk_at "a"
  refine ev_makeScr ?_
  walk_at "a"
  refine ev_plan ?_
  walk_at "a"
  refine ⟨0, ws1, _, rfl, rfl, hp1, by decide, fun d2 ws2 hr2 hp2 => ?_⟩
  walk_at "a"
  refine ⟨d2, rfl, hr2, ?_⟩
  walk_at "a"
  refine ⟨Nat.le_of_ble_eq_true rfl, ?_⟩
  walk_at "a"
  refine ev_makeY (D := c3 T) ?_
  walk_at "a"
  refine o_ixA (j := 1) rfl (y := .scr d1) rfl ?_
  walk_at "a"
  refine ⟨d1, rfl, hr1, ?_⟩
  walk_at "a"
  refine ev_makeY (D := c3 T) ?_
  walk_at "a"
  refine o_ixA (j := 1) rfl (y := .scr d1) rfl ?_
  walk_at "a"
  refine ⟨d1, rfl, hr1, ?_⟩
  walk_at "a"
  refine ex_for 5 (by decide) (ei_listA 4 (by decide) ?_)
  walk_at "a"
  refine ev_lst ?_
  walk_at "a"
  refine ⟨Nat.le_of_ble_eq_true rfl, rfl, _, rfl, ?_⟩
  walk_at "a"
  refine ⟨Nat.le_refl 5, fun i E' cs' => ∃ x4, E' = [some (.cel 0), some (.cel 1), some (.cel 2), some (.cel 3), x4, none] ∧ cs' = [.l ws2, .a [.scr d1, .scr d2], if 0 < i then yc T (y2 d1) (p2 d1) else yc T (YS.init d1) [], if 1 < i then yc T (y2 d1) (p2 d1) else yc T (YS.init d1) [], .a [.cel 2, .cel 3]],
    ⟨none, rfl, rfl⟩, fun i E' cs' ⟨_, _, h⟩ => by rw [h]; rfl, ?_, ?_⟩
  · rintro i yv E' cs' hy ⟨x4, rfl, rfl⟩
    rcases i with _ | _ | i
    · have e : yv = .cel 2 := (Option.some.inj hy).symm
      subst e
      show Eg K T.c_Script 5 _ _ [.l ws2, .a [.scr d1, .scr d2], yc T (YS.init d1) [], yc T (YS.init d1) [], .a [.cel 2, .cel 3]] _ _
      refine eg_name ?_
      walk_at "a"
      refine ev_yM (D := c3 T) (fun _ _ _ _ _ => rfl) ?_
      walk_at "a"
      refine ⟨2, YS.init d1, [], rfl, rfl, ?_⟩
      walk_at "a"
      refine ⟨YS.init d1, [], rfl, ym_do (e := .own 5) (by decide +kernel) trivial (Nat.le_of_ble_eq_true rfl) (Nat.le_of_ble_eq_true rfl) ?_⟩
      walk_at "a"
      refine ev_yM (D := c3 T) (fun _ _ _ _ _ => rfl) ?_
      walk_at "a"
      refine ⟨2, (YS.init d1).play (.own 5), [YS.init d1], rfl, rfl, ?_⟩
      walk_at "a"
      refine ⟨(YS.init d1).play (.own 5), [YS.init d1], rfl, ym_do (e := .add 6 7) (by decide +kernel) trivial (Nat.le_of_ble_eq_true rfl) (Nat.le_of_ble_eq_true rfl) ?_⟩
      walk_at "a"
      exact Cm.here ⟨_, rfl, rfl⟩
    · have e : yv = .cel 3 := (Option.some.inj hy).symm
      subst e
      show Eg K T.c_Script 5 _ _ [.l ws2, .a [.scr d1, .scr d2], yc T (y2 d1) (p2 d1), yc T (YS.init d1) [], .a [.cel 2, .cel 3]] _ _
      refine eg_name ?_
      walk_at "a"
      refine ev_yM (D := c3 T) (fun _ _ _ _ _ => rfl) ?_
      walk_at "a"
      refine ⟨3, YS.init d1, [], rfl, rfl, ?_⟩
      walk_at "a"
      refine ⟨YS.init d1, [], rfl, ym_do (e := .own 5) (by decide +kernel) trivial (Nat.le_of_ble_eq_true rfl) (Nat.le_of_ble_eq_true rfl) ?_⟩
      walk_at "a"
      refine ev_yM (D := c3 T) (fun _ _ _ _ _ => rfl) ?_
      walk_at "a"
      refine ⟨3, (YS.init d1).play (.own 5), [YS.init d1], rfl, rfl, ?_⟩
      walk_at "a"
      refine ⟨(YS.init d1).play (.own 5), [YS.init d1], rfl, ym_do (e := .add 6 7) (by decide +kernel) trivial (Nat.le_of_ble_eq_true rfl) (Nat.le_of_ble_eq_true rfl) ?_⟩
      walk_at "a"
      exact Cm.here ⟨_, rfl, rfl⟩
    · simp at hy
  rintro E' cs' ⟨x4, rfl, rfl⟩
  show Ex K T.c_Script 1 _ [.l ws2, .a [.scr d1, .scr d2], yc T (y2 d1) (p2 d1), yc T (y2 d1) (p2 d1), .a [.cel 2, .cel 3]] _ _
  walk_at "a"
  refine ex_for 1 (Nat.le_refl 1) (ei_rng1 ?_)
  walk_at "a"
  refine ev_draw ?_
  walk_at "a"
  refine ⟨0, 13, ws2, _, rfl, rfl, hp2, by decide, by decide, by decide, fun m ws3 m0 m1 hp3 => ?_⟩
  walk_at "a"
  refine ⟨by omega, by omega, Nat.le_of_ble_eq_true rfl, fun i E' cs' => ∃ x4 x5 ws' y past, E' = [some (.cel 0), some (.cel 1), some (.cel 2), some (.cel 3), x4, x5] ∧ cs' = [.l ws', .a [.scr d1, .scr d2], yc T y past, yc T y past, .a [.cel 2, .cel 3]] ∧ PotD ws' (1000 + 30 * i) ∧ YOk y ∧ Row y.sc ∧ y.story.length ≤ 2 + 2 * i ∧ past.length ≤ 2 + i,
    ⟨_, none, ws3, y2 d1, p2 d1, rfl, rfl, hp3.mono (by decide), y2_ok d1, hr1, Nat.le_refl 2, Nat.le_refl 2⟩, fun _ _ _ _ => trivial, ?_, ?_⟩
  · rintro i yv E' cs' hy ⟨x4, x5, ws4, y, past, rfl, rfl, hp4, hyk, hrow, hst, hpl⟩
    obtain ⟨hi, rfl⟩ := rngA_get hy
    have hi13 : i < 13 := by omega
    refine eg_name ?_
    walk_at "a"
    refine ev_called T ?_
    walk_at "a"
    refine ⟨ws4, _, y, past, d1, d2, _, rfl, rfl, hp4, by omega, hyk, hrow, hr1, hr2, by omega, by omega, fun ws5 y' hp5 hy' hrow' hst' => ?_⟩
    walk_at "a"
    refine ev_stand T ?_
    walk_at "a"
    refine ⟨2, y', (past ++ [y]), rfl, rfl, hy', by omega, ?_⟩
    walk_at "a"
    refine ev_stand T ?_
    walk_at "a"
    refine ⟨3, y', (past ++ [y]), rfl, rfl, hy', by omega, ?_⟩
    walk_at "a"
    refine o_neA2 (o_neD (a := .list (standD y')) (b := .list (standD y')) rfl rfl ((flat_stand hy' hrow').shaped (by decide)) ((flat_stand hy' hrow').shaped (by decide)) ?_)
    rw [(flat_stand hy' hrow').eqv]
    walk_at "a"
    refine ev_yMN (D := c3 T) (fun _ _ => rfl) (fun _ _ _ _ _ => rfl) ?_
    walk_at "a"
    refine ⟨2, y', past ++ [y], rfl, rfl, ?_⟩
    walk_at "a"
    refine ⟨rfl, y', past ++ [y], rfl, ym_made (by omega) ⟨by decide, by have := hy'.el; omega⟩ ?_⟩
    walk_at "a"
    refine ev_yM (D := c3 T) (fun _ _ _ _ _ => rfl) ?_
    walk_at "a"
    refine ⟨3, y', past ++ [y], rfl, rfl, ?_⟩
    walk_at "a"
    refine ⟨y', past ++ [y], rfl, ym_made (by omega) ⟨by decide, by have := hy'.el; omega⟩ ?_⟩
    walk_at "a"
    refine o_neA2 (o_neD (a := tD (madeNo y'.led.later 1)) (b := tD (madeNo y'.led.later 1)) rfl rfl (flat_tD.shaped (by decide)) (flat_tD.shaped (by decide)) ?_)
    rw [flat_tD.eqv]
    walk_at "a"
    refine ev_draw ?_
    walk_at "a"
    refine ⟨0, 4, ws5, _, rfl, rfl, hp5, by omega, by decide, by decide, fun r ws6 r0 r1 hp6 => ?_⟩
    walk_at "a"
    refine iteB (fun c => ?_) (fun c => ?_)
    · walk_at "a"
      refine ev_yM0 (D := c3 T) (fun _ _ _ _ _ => rfl) ?_
      walk_at "a"
      refine ⟨2, y', past ++ [y], rfl, rfl, ym_undo (by omega) ?_⟩
      walk_at "a"
      refine ev_yM0 (D := c3 T) (fun _ _ _ _ _ => rfl) ?_
      walk_at "a"
      refine ⟨3, y', past ++ [y], rfl, rfl, ym_undo (by omega) ?_⟩
      walk_at "a"
      refine ev_stand T ?_
      walk_at "a"
      refine ⟨2, y, past, rfl, rfl, hyk, by omega, ?_⟩
      walk_at "a"
      refine ev_stand T ?_
      walk_at "a"
      refine ⟨3, y, past, rfl, rfl, hyk, by omega, ?_⟩
      walk_at "a"
      refine o_neA2 (o_neD (a := .list (standD y)) (b := .list (standD y)) rfl rfl ((flat_stand hyk hrow).shaped (by decide)) ((flat_stand hyk hrow).shaped (by decide)) ?_)
      rw [(flat_stand hyk hrow).eqv]
      walk_at "a"
      exact Cm.here ⟨_, _, ws6, y, past, rfl, rfl, hp6.mono (by omega), hyk, hrow, by omega, by omega⟩
    · walk_at "a"
      exact Cm.here ⟨_, _, ws6, y', past ++ [y], rfl, rfl, hp6.mono (by omega), hy', hrow', by omega, by rw [List.length_append, List.length_singleton]; omega⟩
  · rintro E' cs' ⟨x4, x5, ws4, y, past, rfl, rfl, hp4, hyk, hrow, hst, hpl⟩
    walk_at "a"
    show Rt 1 k _ _
    exact Rt.cut 1 (hk ws4) (Nat.le_refl 1) rfl rfl
end
theorem ev_right {K : PySem.W.Frag} {C : Addr} {E : AEnv} {cs : List Cell} {tas : TA} {k : AV → List Cell → Prop} {X : XK} (h : Evs K C E cs tas fun xs cs1 => ∃ (i : Nat) (ws : List PyData), xs = [.cel i] ∧ cs1[i]? = some (.l ws) ∧ PotD ws 0 ∧ ∀ ws', k (.d (.bool true)) (cs1.set i (.l ws'))) : Ev K C E cs (tCall (spA K C ApRight) [] X tas) k :=
  ev_call1 fun F as H σ Q w e z => h F as H σ Q w e fun xs cs1 v F' as' H' ⟨i, ws, hx, hc, hp, hk⟩ => z xs cs1 v F' as' H' ⟨i, ws, [], hx, hc, ws, rfl, rfl, hp, fun ws' => by
      have := hk ws'
      show k (.d (.bool true)) (putC cs1 [i] [.l ws'])
      simp only [putC, List.append_nil]
      exact this⟩
section
variable {P : Program} {w : World} {K : PySem.W.Frag} {mg : Str → Option Value} {base : Heap}
theorem ok_law0 (T : Tx K mg) : FnOk P w K mg base CX0 16 T.law.a T.law.fd ["script"] (spA K T.c_Script ApLaw) := by
  have G_jar := ok_jar (P := P) (w := w) (base := base) T T.c_Script
  have G_right := ok_right (P := P) (w := w) (base := base) T
  refine T.law.F.ok sc_law (fun vs H Q E h => spA_len (l := 1) (fun xs cs k ⟨_, h, _⟩ => by rw [h]; rfl) h) (fun cdv A outer s H vs Q E hr h => ?_)
  obtain ⟨F, as, cs, xs, k, wd, ar, ⟨ns, rfl, rfl, hl, hk⟩, q⟩ := h
  refine ⟨_, (pss_cons (ps_for PassesOwn.never rfl (pi_range1 (by rfl) T.b_range (pa_cons (pe_callB (call_max2 rfl) (by rfl) T.b_max (by decide +kernel) (pa_cons pe_int (pa_cons (pe_callB (call_min2 rfl) (by rfl) T.b_min (by decide +kernel) (pa_cons pe_int (pa_cons (pe_callB (call_lenK K) (by rfl) T.b_len (by decide +kernel) (pa_cons (pv 0) pa_nil)) pa_nil))) pa_nil))) pa_nil)) (pg_name (i := 1) sc_law.nd rfl (Or.inl rfl))
  (pss_one (ps_if (pt_not (pt_val (pe_call G_right (hr.mono (by first | decide | omega)) rfl T.right.g T.right.F.kp T.right.b .nil pass0 (pa_cons (pe_call G_jar (hr.mono (by first | decide | omega)) rfl T.jar.g T.jar.F.kp T.jar.b .nil pass0 (pa_cons (pv 0) (pa_cons (pv 1) pa_nil))) pa_nil))))
  (pss_one (ps_ret pe_bl))
  pss_nil)))
  (pss_one (ps_ret pe_bl))), ?_⟩
  refine body_go [some (.d (.list (ns.map PyData.int))), none] (n := 0) rfl rfl wd ar ?_ q
  walk_at "a"
  refine ex_for 0 (Nat.le_refl 0) (ei_rng1 ?_)
  walk_at "a"
  rw [List.length_map]
  refine ⟨by split <;> split <;> omega, by split <;> split <;> omega, Nat.le_refl 0, fun i E' cs' => cs' = [] ∧ ∃ x1, E' = [some (.d (.list (ns.map PyData.int))), x1], ⟨rfl, _, rfl⟩, fun _ _ _ _ => trivial, ?_, ?_⟩
  · rintro i y E' cs' hy ⟨rfl, x1, rfl⟩
    obtain ⟨hi, rfl⟩ := rngA_get hy
    have hi63 : (0 : Int) + (i : Int) ≤ 1000 := by revert hi; split <;> split <;> omega
    refine eg_name ?_
    walk_at "a"
    refine ev_right ?_
    walk_at "a"
    refine ev_jar ?_
    walk_at "a"
    refine ⟨ns, _, rfl, hl, by omega, hi63, fun ws hp => ?_⟩
    walk_at "a"
    refine ⟨0, ws, rfl, rfl, hp, fun ws' => ?_⟩
    walk_at "a"
    exact Cm.mask [true, false] 0 rfl (Nat.le_refl 0) rfl rfl ⟨rfl, none, rfl⟩
  · rintro E' cs' ⟨rfl, x1, rfl⟩
    walk_at "a"
    exact Rt.here hk (Nat.zero_le _) rfl rfl
theorem ok_law (T : Tx K mg) : FnOk P w K mg base CX0 16 T.law.a T.law.fd ["script"] (spLaw K) := law_of (ok_law0 T)
end
end Y

namespace Y
open PySem L2
theorem tx_of {K : PySem.W.Frag} {h : Heap} {mg : Str → Option Value} (X : K.In h) (G : h.Ns mainGlobals mg)
    {C_Script C_OldLine C_NewLine C_Ledgers C_Years f_is_whole f_is_label f_is_amount f_is_number f_is_deed f_OldLine_init f_OldLine_row f_NewLine_init f_NewLine_row f_Ledgers_init f_Ledgers_old_line f_Ledgers_new_line f_Ledgers_rows f_Ledgers_check f_Ledgers_play_deed f_Ledgers_set_field f_Ledgers_write_field f_Ledgers_put_line f_Ledgers_run f_Ledgers_wrongs f_OldLine_closing f_NewLine_is_own f_Ledgers_made_lines f_Ledgers_source_of f_Ledgers_is_in f_Ledgers_make f_Ledgers_drop f_Ledgers_follow f_Ledgers_old_wrongs f_Ledgers_typed_wrongs f_OldLine_twin f_NewLine_twin f_Ledgers_twin f_is_step f_Script_init f_Script_steps f_check_all f_Years_init f_Years_len f_Years_runs pp_Years_runs f_Years_script pp_Years_script f_Years_remember f_Years_play_all f_Years_do f_Years_do_all f_Years_change f_Years_undo f_Years_old f_Years_new f_Years_faults f_Years_made_of f_jar f_draw f_any_step f_plan f_act f_stand f_called f_right f_law A_STEPS A_STEPS_2 A_STEPS_3 A_STEPS_4 A_STEPS_5 A_STEPS_6 A_STEPS_7 A_STEPS_8 A_STEPS_9 A_STEPS_10 A_STEPS_11 A_STEPS_12 A_STEPS_13 : Addr} {kV_is_whole dc_is_whole pm_is_whole cd_is_whole ct_is_whole oc_is_whole kV_is_label dc_is_label pm_is_label cd_is_label ct_is_label oc_is_label kV_is_amount dc_is_amount pm_is_amount cd_is_amount ct_is_amount oc_is_amount kV_is_number dc_is_number pm_is_number cd_is_number ct_is_number oc_is_number kV_is_deed dc_is_deed pm_is_deed cd_is_deed ct_is_deed oc_is_deed kV_OldLine_init dc_OldLine_init pm_OldLine_init cd_OldLine_init ct_OldLine_init oc_OldLine_init kV_OldLine_row dc_OldLine_row pm_OldLine_row cd_OldLine_row ct_OldLine_row oc_OldLine_row kV_NewLine_init dc_NewLine_init pm_NewLine_init cd_NewLine_init ct_NewLine_init oc_NewLine_init kV_NewLine_row dc_NewLine_row pm_NewLine_row cd_NewLine_row ct_NewLine_row oc_NewLine_row kV_Ledgers_init dc_Ledgers_init pm_Ledgers_init cd_Ledgers_init ct_Ledgers_init oc_Ledgers_init kV_Ledgers_old_line dc_Ledgers_old_line pm_Ledgers_old_line cd_Ledgers_old_line ct_Ledgers_old_line oc_Ledgers_old_line kV_Ledgers_new_line dc_Ledgers_new_line pm_Ledgers_new_line cd_Ledgers_new_line ct_Ledgers_new_line oc_Ledgers_new_line kV_Ledgers_rows dc_Ledgers_rows pm_Ledgers_rows cd_Ledgers_rows ct_Ledgers_rows oc_Ledgers_rows kV_Ledgers_check dc_Ledgers_check pm_Ledgers_check cd_Ledgers_check ct_Ledgers_check oc_Ledgers_check kV_Ledgers_play_deed dc_Ledgers_play_deed pm_Ledgers_play_deed cd_Ledgers_play_deed ct_Ledgers_play_deed oc_Ledgers_play_deed kV_Ledgers_set_field dc_Ledgers_set_field pm_Ledgers_set_field cd_Ledgers_set_field ct_Ledgers_set_field oc_Ledgers_set_field kV_Ledgers_write_field dc_Ledgers_write_field pm_Ledgers_write_field cd_Ledgers_write_field ct_Ledgers_write_field oc_Ledgers_write_field kV_Ledgers_put_line dc_Ledgers_put_line pm_Ledgers_put_line cd_Ledgers_put_line ct_Ledgers_put_line oc_Ledgers_put_line kV_Ledgers_run dc_Ledgers_run pm_Ledgers_run cd_Ledgers_run ct_Ledgers_run oc_Ledgers_run kV_Ledgers_wrongs dc_Ledgers_wrongs pm_Ledgers_wrongs cd_Ledgers_wrongs ct_Ledgers_wrongs oc_Ledgers_wrongs kV_OldLine_closing dc_OldLine_closing pm_OldLine_closing cd_OldLine_closing ct_OldLine_closing oc_OldLine_closing kV_NewLine_is_own dc_NewLine_is_own pm_NewLine_is_own cd_NewLine_is_own ct_NewLine_is_own oc_NewLine_is_own kV_Ledgers_made_lines dc_Ledgers_made_lines pm_Ledgers_made_lines cd_Ledgers_made_lines ct_Ledgers_made_lines oc_Ledgers_made_lines kV_Ledgers_source_of dc_Ledgers_source_of pm_Ledgers_source_of cd_Ledgers_source_of ct_Ledgers_source_of oc_Ledgers_source_of kV_Ledgers_is_in dc_Ledgers_is_in pm_Ledgers_is_in cd_Ledgers_is_in ct_Ledgers_is_in oc_Ledgers_is_in kV_Ledgers_make dc_Ledgers_make pm_Ledgers_make cd_Ledgers_make ct_Ledgers_make oc_Ledgers_make kV_Ledgers_drop dc_Ledgers_drop pm_Ledgers_drop cd_Ledgers_drop ct_Ledgers_drop oc_Ledgers_drop kV_Ledgers_follow dc_Ledgers_follow pm_Ledgers_follow cd_Ledgers_follow ct_Ledgers_follow oc_Ledgers_follow kV_Ledgers_old_wrongs dc_Ledgers_old_wrongs pm_Ledgers_old_wrongs cd_Ledgers_old_wrongs ct_Ledgers_old_wrongs oc_Ledgers_old_wrongs kV_Ledgers_typed_wrongs dc_Ledgers_typed_wrongs pm_Ledgers_typed_wrongs cd_Ledgers_typed_wrongs ct_Ledgers_typed_wrongs oc_Ledgers_typed_wrongs kV_OldLine_twin dc_OldLine_twin pm_OldLine_twin cd_OldLine_twin ct_OldLine_twin oc_OldLine_twin kV_NewLine_twin dc_NewLine_twin pm_NewLine_twin cd_NewLine_twin ct_NewLine_twin oc_NewLine_twin kV_Ledgers_twin dc_Ledgers_twin pm_Ledgers_twin cd_Ledgers_twin ct_Ledgers_twin oc_Ledgers_twin kV_is_step dc_is_step pm_is_step cd_is_step ct_is_step oc_is_step kV_Script_init dc_Script_init pm_Script_init cd_Script_init ct_Script_init oc_Script_init kV_Script_steps dc_Script_steps pm_Script_steps cd_Script_steps ct_Script_steps oc_Script_steps kV_check_all dc_check_all pm_check_all cd_check_all ct_check_all oc_check_all kV_Years_init dc_Years_init pm_Years_init cd_Years_init ct_Years_init oc_Years_init kV_Years_len dc_Years_len pm_Years_len cd_Years_len ct_Years_len oc_Years_len kV_Years_runs dc_Years_runs pm_Years_runs cd_Years_runs ct_Years_runs oc_Years_runs kV_Years_script dc_Years_script pm_Years_script cd_Years_script ct_Years_script oc_Years_script kV_Years_remember dc_Years_remember pm_Years_remember cd_Years_remember ct_Years_remember oc_Years_remember kV_Years_play_all dc_Years_play_all pm_Years_play_all cd_Years_play_all ct_Years_play_all oc_Years_play_all kV_Years_do dc_Years_do pm_Years_do cd_Years_do ct_Years_do oc_Years_do kV_Years_do_all dc_Years_do_all pm_Years_do_all cd_Years_do_all ct_Years_do_all oc_Years_do_all kV_Years_change dc_Years_change pm_Years_change cd_Years_change ct_Years_change oc_Years_change kV_Years_undo dc_Years_undo pm_Years_undo cd_Years_undo ct_Years_undo oc_Years_undo kV_Years_old dc_Years_old pm_Years_old cd_Years_old ct_Years_old oc_Years_old kV_Years_new dc_Years_new pm_Years_new cd_Years_new ct_Years_new oc_Years_new kV_Years_faults dc_Years_faults pm_Years_faults cd_Years_faults ct_Years_faults oc_Years_faults kV_Years_made_of dc_Years_made_of pm_Years_made_of cd_Years_made_of ct_Years_made_of oc_Years_made_of kV_jar dc_jar pm_jar cd_jar ct_jar oc_jar kV_draw dc_draw pm_draw cd_draw ct_draw oc_draw kV_any_step dc_any_step pm_any_step cd_any_step ct_any_step oc_any_step kV_plan dc_plan pm_plan cd_plan ct_plan oc_plan kV_act dc_act pm_act cd_act ct_act oc_act kV_stand dc_stand pm_stand cd_stand ct_stand oc_stand kV_called dc_called pm_called cd_called ct_called oc_called kV_right dc_right pm_right cd_right ct_right oc_right kV_law dc_law pm_law cd_law ct_law oc_law : Value} {od_is_whole an_is_whole od_is_label an_is_label od_is_amount an_is_amount od_is_number an_is_number od_is_deed an_is_deed od_OldLine_init an_OldLine_init od_OldLine_row an_OldLine_row od_NewLine_init an_NewLine_init od_NewLine_row an_NewLine_row od_Ledgers_init an_Ledgers_init od_Ledgers_old_line an_Ledgers_old_line od_Ledgers_new_line an_Ledgers_new_line od_Ledgers_rows an_Ledgers_rows od_Ledgers_check an_Ledgers_check od_Ledgers_play_deed an_Ledgers_play_deed od_Ledgers_set_field an_Ledgers_set_field od_Ledgers_write_field an_Ledgers_write_field od_Ledgers_put_line an_Ledgers_put_line od_Ledgers_run an_Ledgers_run od_Ledgers_wrongs an_Ledgers_wrongs od_OldLine_closing an_OldLine_closing od_NewLine_is_own an_NewLine_is_own od_Ledgers_made_lines an_Ledgers_made_lines od_Ledgers_source_of an_Ledgers_source_of od_Ledgers_is_in an_Ledgers_is_in od_Ledgers_make an_Ledgers_make od_Ledgers_drop an_Ledgers_drop od_Ledgers_follow an_Ledgers_follow od_Ledgers_old_wrongs an_Ledgers_old_wrongs od_Ledgers_typed_wrongs an_Ledgers_typed_wrongs od_OldLine_twin an_OldLine_twin od_NewLine_twin an_NewLine_twin od_Ledgers_twin an_Ledgers_twin od_is_step an_is_step od_Script_init an_Script_init od_Script_steps an_Script_steps od_check_all an_check_all od_Years_init an_Years_init od_Years_len an_Years_len od_Years_runs an_Years_runs od_Years_script an_Years_script od_Years_remember an_Years_remember od_Years_play_all an_Years_play_all od_Years_do an_Years_do od_Years_do_all an_Years_do_all od_Years_change an_Years_change od_Years_undo an_Years_undo od_Years_old an_Years_old od_Years_new an_Years_new od_Years_faults an_Years_faults od_Years_made_of an_Years_made_of od_jar an_jar od_draw an_draw od_any_step an_any_step od_plan an_plan od_act an_act od_stand an_stand od_called an_called od_right an_right od_law an_law dd_w_STEPS_0 dd_w_STEPS_13 dd_w_STEPS_15 dd_w_STEPS_18 dd_w_STEPS_21 dd_w_STEPS_24 dd_w_STEPS_27 dd_w_STEPS_30 dd_w_STEPS_33 dd_w_STEPS_36 dd_w_STEPS_39 dd_w_STEPS_42 dd_w_STEPS_45 : Option Addr} {sl_is_whole sl_is_label sl_is_amount sl_is_number sl_is_deed sl_OldLine_init sl_OldLine_row sl_NewLine_init sl_NewLine_row sl_Ledgers_init sl_Ledgers_old_line sl_Ledgers_new_line sl_Ledgers_rows sl_Ledgers_check sl_Ledgers_play_deed sl_Ledgers_set_field sl_Ledgers_write_field sl_Ledgers_put_line sl_Ledgers_run sl_Ledgers_wrongs sl_OldLine_closing sl_NewLine_is_own sl_Ledgers_made_lines sl_Ledgers_source_of sl_Ledgers_is_in sl_Ledgers_make sl_Ledgers_drop sl_Ledgers_follow sl_Ledgers_old_wrongs sl_Ledgers_typed_wrongs sl_OldLine_twin sl_NewLine_twin sl_Ledgers_twin sl_is_step sl_Script_init sl_Script_steps sl_check_all sl_Years_init sl_Years_len sl_Years_runs sl_Years_script sl_Years_remember sl_Years_play_all sl_Years_do sl_Years_do_all sl_Years_change sl_Years_undo sl_Years_old sl_Years_new sl_Years_faults sl_Years_made_of sl_jar sl_draw sl_any_step sl_plan sl_act sl_stand sl_called sl_right sl_law ss_w_STEPS_0 ss_w_STEPS_13 ss_w_STEPS_15 ss_w_STEPS_18 ss_w_STEPS_21 ss_w_STEPS_24 ss_w_STEPS_27 ss_w_STEPS_30 ss_w_STEPS_33 ss_w_STEPS_36 ss_w_STEPS_39 ss_w_STEPS_42 ss_w_STEPS_45 : Array (Option Value)} {tk_STEPS_15 tk_STEPS_17 tk_STEPS_18 tk_STEPS_20 tk_STEPS_21 tk_STEPS_23 tk_STEPS_24 tk_STEPS_26 tk_STEPS_27 tk_STEPS_29 tk_STEPS_30 tk_STEPS_32 tk_STEPS_33 tk_STEPS_35 tk_STEPS_36 tk_STEPS_38 tk_STEPS_39 tk_STEPS_41 tk_STEPS_42 tk_STEPS_44 tk_STEPS_45 tk_STEPS_47 tk_STEPS_48 tk_MOST_STEPS tk_MOST_LABEL tk_MOST_AMOUNT tk_MOST_NUMBER : Tok} {nn_w_STEPS_0 nn_w_STEPS_13 nn_w_STEPS_15 nn_w_STEPS_18 nn_w_STEPS_21 nn_w_STEPS_24 nn_w_STEPS_27 nn_w_STEPS_30 nn_w_STEPS_33 nn_w_STEPS_36 nn_w_STEPS_39 nn_w_STEPS_42 nn_w_STEPS_45 : Nat} {pz_Years_runs : List Value} {pz_Years_script : List Value}
    (cn : PySem.W.specialIn K (.builtin "object.__class__") "__get__" = some (some (.builtin "getset_descriptor.__get__")))
    (ctk : PySem.W.takesIn K (.builtin "object.__class__") = some true)
    (nC_Script : PySem.W.nsIn K mainGlobals "Script" = some (some (.ref C_Script)))
    (nC_OldLine : PySem.W.nsIn K mainGlobals "OldLine" = some (some (.ref C_OldLine)))
    (nC_NewLine : PySem.W.nsIn K mainGlobals "NewLine" = some (some (.ref C_NewLine)))
    (nC_Ledgers : PySem.W.nsIn K mainGlobals "Ledgers" = some (some (.ref C_Ledgers)))
    (nC_Years : PySem.W.nsIn K mainGlobals "Years" = some (some (.ref C_Years)))
    (a_is_whole : PySem.W.nsIn K mainGlobals "is_whole" = some (some (.ref f_is_whole)))
    (l_is_whole : K.lookup f_is_whole = some ⟨oc_is_whole, od_is_whole, .func (PySem.W.fnOf "is_whole" "is_whole" (defArgs s_is_whole) (defBody s_is_whole) (defScope s_is_whole) .none kV_is_whole dc_is_whole pm_is_whole an_is_whole cd_is_whole ct_is_whole), sl_is_whole⟩)
    (c_is_whole : PySem.W.codeIn K cd_is_whole "is_whole" = true)
    (k_is_whole : PySem.W.keepIn K (.ref f_is_whole) = true)
    (a_is_label : PySem.W.nsIn K mainGlobals "is_label" = some (some (.ref f_is_label)))
    (l_is_label : K.lookup f_is_label = some ⟨oc_is_label, od_is_label, .func (PySem.W.fnOf "is_label" "is_label" (defArgs s_is_label) (defBody s_is_label) (defScope s_is_label) .none kV_is_label dc_is_label pm_is_label an_is_label cd_is_label ct_is_label), sl_is_label⟩)
    (c_is_label : PySem.W.codeIn K cd_is_label "is_label" = true)
    (k_is_label : PySem.W.keepIn K (.ref f_is_label) = true)
    (a_is_amount : PySem.W.nsIn K mainGlobals "is_amount" = some (some (.ref f_is_amount)))
    (l_is_amount : K.lookup f_is_amount = some ⟨oc_is_amount, od_is_amount, .func (PySem.W.fnOf "is_amount" "is_amount" (defArgs s_is_amount) (defBody s_is_amount) (defScope s_is_amount) .none kV_is_amount dc_is_amount pm_is_amount an_is_amount cd_is_amount ct_is_amount), sl_is_amount⟩)
    (c_is_amount : PySem.W.codeIn K cd_is_amount "is_amount" = true)
    (k_is_amount : PySem.W.keepIn K (.ref f_is_amount) = true)
    (a_is_number : PySem.W.nsIn K mainGlobals "is_number" = some (some (.ref f_is_number)))
    (l_is_number : K.lookup f_is_number = some ⟨oc_is_number, od_is_number, .func (PySem.W.fnOf "is_number" "is_number" (defArgs s_is_number) (defBody s_is_number) (defScope s_is_number) .none kV_is_number dc_is_number pm_is_number an_is_number cd_is_number ct_is_number), sl_is_number⟩)
    (c_is_number : PySem.W.codeIn K cd_is_number "is_number" = true)
    (k_is_number : PySem.W.keepIn K (.ref f_is_number) = true)
    (a_is_deed : PySem.W.nsIn K mainGlobals "is_deed" = some (some (.ref f_is_deed)))
    (l_is_deed : K.lookup f_is_deed = some ⟨oc_is_deed, od_is_deed, .func (PySem.W.fnOf "is_deed" "is_deed" (defArgs s_is_deed) (defBody s_is_deed) (defScope s_is_deed) .none kV_is_deed dc_is_deed pm_is_deed an_is_deed cd_is_deed ct_is_deed), sl_is_deed⟩)
    (c_is_deed : PySem.W.codeIn K cd_is_deed "is_deed" = true)
    (k_is_deed : PySem.W.keepIn K (.ref f_is_deed) = true)
    (a_OldLine_init : PySem.W.findIn K (.ref C_OldLine) "__init__" = some (some (.ref f_OldLine_init)))
    (i_OldLine_init : PySem.W.isFn K (.ref f_OldLine_init) = true)
    (l_OldLine_init : K.lookup f_OldLine_init = some ⟨oc_OldLine_init, od_OldLine_init, .func (PySem.W.fnOf "__init__" "OldLine.__init__" (defArgs s_OldLine_init) (defBody s_OldLine_init) (defScope s_OldLine_init) .none kV_OldLine_init dc_OldLine_init pm_OldLine_init an_OldLine_init cd_OldLine_init ct_OldLine_init), sl_OldLine_init⟩)
    (c_OldLine_init : PySem.W.codeIn K cd_OldLine_init "OldLine.__init__" = true)
    (k_OldLine_init : PySem.W.keepIn K (.ref f_OldLine_init) = true)
    (a_OldLine_row : PySem.W.findIn K (.ref C_OldLine) "row" = some (some (.ref f_OldLine_row)))
    (i_OldLine_row : PySem.W.isFn K (.ref f_OldLine_row) = true)
    (l_OldLine_row : K.lookup f_OldLine_row = some ⟨oc_OldLine_row, od_OldLine_row, .func (PySem.W.fnOf "row" "OldLine.row" (defArgs s_OldLine_row) (defBody s_OldLine_row) (defScope s_OldLine_row) .none kV_OldLine_row dc_OldLine_row pm_OldLine_row an_OldLine_row cd_OldLine_row ct_OldLine_row), sl_OldLine_row⟩)
    (c_OldLine_row : PySem.W.codeIn K cd_OldLine_row "OldLine.row" = true)
    (k_OldLine_row : PySem.W.keepIn K (.ref f_OldLine_row) = true)
    (a_NewLine_init : PySem.W.findIn K (.ref C_NewLine) "__init__" = some (some (.ref f_NewLine_init)))
    (i_NewLine_init : PySem.W.isFn K (.ref f_NewLine_init) = true)
    (l_NewLine_init : K.lookup f_NewLine_init = some ⟨oc_NewLine_init, od_NewLine_init, .func (PySem.W.fnOf "__init__" "NewLine.__init__" (defArgs s_NewLine_init) (defBody s_NewLine_init) (defScope s_NewLine_init) .none kV_NewLine_init dc_NewLine_init pm_NewLine_init an_NewLine_init cd_NewLine_init ct_NewLine_init), sl_NewLine_init⟩)
    (c_NewLine_init : PySem.W.codeIn K cd_NewLine_init "NewLine.__init__" = true)
    (k_NewLine_init : PySem.W.keepIn K (.ref f_NewLine_init) = true)
    (a_NewLine_row : PySem.W.findIn K (.ref C_NewLine) "row" = some (some (.ref f_NewLine_row)))
    (i_NewLine_row : PySem.W.isFn K (.ref f_NewLine_row) = true)
    (l_NewLine_row : K.lookup f_NewLine_row = some ⟨oc_NewLine_row, od_NewLine_row, .func (PySem.W.fnOf "row" "NewLine.row" (defArgs s_NewLine_row) (defBody s_NewLine_row) (defScope s_NewLine_row) .none kV_NewLine_row dc_NewLine_row pm_NewLine_row an_NewLine_row cd_NewLine_row ct_NewLine_row), sl_NewLine_row⟩)
    (c_NewLine_row : PySem.W.codeIn K cd_NewLine_row "NewLine.row" = true)
    (k_NewLine_row : PySem.W.keepIn K (.ref f_NewLine_row) = true)
    (a_Ledgers_init : PySem.W.findIn K (.ref C_Ledgers) "__init__" = some (some (.ref f_Ledgers_init)))
    (i_Ledgers_init : PySem.W.isFn K (.ref f_Ledgers_init) = true)
    (l_Ledgers_init : K.lookup f_Ledgers_init = some ⟨oc_Ledgers_init, od_Ledgers_init, .func (PySem.W.fnOf "__init__" "Ledgers.__init__" (defArgs s_Ledgers_init) (defBody s_Ledgers_init) (defScope s_Ledgers_init) .none kV_Ledgers_init dc_Ledgers_init pm_Ledgers_init an_Ledgers_init cd_Ledgers_init ct_Ledgers_init), sl_Ledgers_init⟩)
    (c_Ledgers_init : PySem.W.codeIn K cd_Ledgers_init "Ledgers.__init__" = true)
    (k_Ledgers_init : PySem.W.keepIn K (.ref f_Ledgers_init) = true)
    (a_Ledgers_old_line : PySem.W.findIn K (.ref C_Ledgers) "old_line" = some (some (.ref f_Ledgers_old_line)))
    (i_Ledgers_old_line : PySem.W.isFn K (.ref f_Ledgers_old_line) = true)
    (l_Ledgers_old_line : K.lookup f_Ledgers_old_line = some ⟨oc_Ledgers_old_line, od_Ledgers_old_line, .func (PySem.W.fnOf "old_line" "Ledgers.old_line" (defArgs s_Ledgers_old_line) (defBody s_Ledgers_old_line) (defScope s_Ledgers_old_line) .none kV_Ledgers_old_line dc_Ledgers_old_line pm_Ledgers_old_line an_Ledgers_old_line cd_Ledgers_old_line ct_Ledgers_old_line), sl_Ledgers_old_line⟩)
    (c_Ledgers_old_line : PySem.W.codeIn K cd_Ledgers_old_line "Ledgers.old_line" = true)
    (k_Ledgers_old_line : PySem.W.keepIn K (.ref f_Ledgers_old_line) = true)
    (a_Ledgers_new_line : PySem.W.findIn K (.ref C_Ledgers) "new_line" = some (some (.ref f_Ledgers_new_line)))
    (i_Ledgers_new_line : PySem.W.isFn K (.ref f_Ledgers_new_line) = true)
    (l_Ledgers_new_line : K.lookup f_Ledgers_new_line = some ⟨oc_Ledgers_new_line, od_Ledgers_new_line, .func (PySem.W.fnOf "new_line" "Ledgers.new_line" (defArgs s_Ledgers_new_line) (defBody s_Ledgers_new_line) (defScope s_Ledgers_new_line) .none kV_Ledgers_new_line dc_Ledgers_new_line pm_Ledgers_new_line an_Ledgers_new_line cd_Ledgers_new_line ct_Ledgers_new_line), sl_Ledgers_new_line⟩)
    (c_Ledgers_new_line : PySem.W.codeIn K cd_Ledgers_new_line "Ledgers.new_line" = true)
    (k_Ledgers_new_line : PySem.W.keepIn K (.ref f_Ledgers_new_line) = true)
    (a_Ledgers_rows : PySem.W.findIn K (.ref C_Ledgers) "rows" = some (some (.ref f_Ledgers_rows)))
    (i_Ledgers_rows : PySem.W.isFn K (.ref f_Ledgers_rows) = true)
    (l_Ledgers_rows : K.lookup f_Ledgers_rows = some ⟨oc_Ledgers_rows, od_Ledgers_rows, .func (PySem.W.fnOf "rows" "Ledgers.rows" (defArgs s_Ledgers_rows) (defBody s_Ledgers_rows) (defScope s_Ledgers_rows) .none kV_Ledgers_rows dc_Ledgers_rows pm_Ledgers_rows an_Ledgers_rows cd_Ledgers_rows ct_Ledgers_rows), sl_Ledgers_rows⟩)
    (c_Ledgers_rows : PySem.W.codeIn K cd_Ledgers_rows "Ledgers.rows" = true)
    (k_Ledgers_rows : PySem.W.keepIn K (.ref f_Ledgers_rows) = true)
    (a_Ledgers_check : PySem.W.findIn K (.ref C_Ledgers) "check" = some (some (.ref f_Ledgers_check)))
    (i_Ledgers_check : PySem.W.isFn K (.ref f_Ledgers_check) = true)
    (l_Ledgers_check : K.lookup f_Ledgers_check = some ⟨oc_Ledgers_check, od_Ledgers_check, .func (PySem.W.fnOf "check" "Ledgers.check" (defArgs s_Ledgers_check) (defBody s_Ledgers_check) (defScope s_Ledgers_check) .none kV_Ledgers_check dc_Ledgers_check pm_Ledgers_check an_Ledgers_check cd_Ledgers_check ct_Ledgers_check), sl_Ledgers_check⟩)
    (c_Ledgers_check : PySem.W.codeIn K cd_Ledgers_check "Ledgers.check" = true)
    (k_Ledgers_check : PySem.W.keepIn K (.ref f_Ledgers_check) = true)
    (a_Ledgers_play_deed : PySem.W.findIn K (.ref C_Ledgers) "play_deed" = some (some (.ref f_Ledgers_play_deed)))
    (i_Ledgers_play_deed : PySem.W.isFn K (.ref f_Ledgers_play_deed) = true)
    (l_Ledgers_play_deed : K.lookup f_Ledgers_play_deed = some ⟨oc_Ledgers_play_deed, od_Ledgers_play_deed, .func (PySem.W.fnOf "play_deed" "Ledgers.play_deed" (defArgs s_Ledgers_play_deed) (defBody s_Ledgers_play_deed) (defScope s_Ledgers_play_deed) .none kV_Ledgers_play_deed dc_Ledgers_play_deed pm_Ledgers_play_deed an_Ledgers_play_deed cd_Ledgers_play_deed ct_Ledgers_play_deed), sl_Ledgers_play_deed⟩)
    (c_Ledgers_play_deed : PySem.W.codeIn K cd_Ledgers_play_deed "Ledgers.play_deed" = true)
    (k_Ledgers_play_deed : PySem.W.keepIn K (.ref f_Ledgers_play_deed) = true)
    (a_Ledgers_set_field : PySem.W.findIn K (.ref C_Ledgers) "set_field" = some (some (.ref f_Ledgers_set_field)))
    (i_Ledgers_set_field : PySem.W.isFn K (.ref f_Ledgers_set_field) = true)
    (l_Ledgers_set_field : K.lookup f_Ledgers_set_field = some ⟨oc_Ledgers_set_field, od_Ledgers_set_field, .func (PySem.W.fnOf "set_field" "Ledgers.set_field" (defArgs s_Ledgers_set_field) (defBody s_Ledgers_set_field) (defScope s_Ledgers_set_field) .none kV_Ledgers_set_field dc_Ledgers_set_field pm_Ledgers_set_field an_Ledgers_set_field cd_Ledgers_set_field ct_Ledgers_set_field), sl_Ledgers_set_field⟩)
    (c_Ledgers_set_field : PySem.W.codeIn K cd_Ledgers_set_field "Ledgers.set_field" = true)
    (k_Ledgers_set_field : PySem.W.keepIn K (.ref f_Ledgers_set_field) = true)
    (a_Ledgers_write_field : PySem.W.findIn K (.ref C_Ledgers) "write_field" = some (some (.ref f_Ledgers_write_field)))
    (i_Ledgers_write_field : PySem.W.isFn K (.ref f_Ledgers_write_field) = true)
    (l_Ledgers_write_field : K.lookup f_Ledgers_write_field = some ⟨oc_Ledgers_write_field, od_Ledgers_write_field, .func (PySem.W.fnOf "write_field" "Ledgers.write_field" (defArgs s_Ledgers_write_field) (defBody s_Ledgers_write_field) (defScope s_Ledgers_write_field) .none kV_Ledgers_write_field dc_Ledgers_write_field pm_Ledgers_write_field an_Ledgers_write_field cd_Ledgers_write_field ct_Ledgers_write_field), sl_Ledgers_write_field⟩)
    (c_Ledgers_write_field : PySem.W.codeIn K cd_Ledgers_write_field "Ledgers.write_field" = true)
    (k_Ledgers_write_field : PySem.W.keepIn K (.ref f_Ledgers_write_field) = true)
    (a_Ledgers_put_line : PySem.W.findIn K (.ref C_Ledgers) "put_line" = some (some (.ref f_Ledgers_put_line)))
    (i_Ledgers_put_line : PySem.W.isFn K (.ref f_Ledgers_put_line) = true)
    (l_Ledgers_put_line : K.lookup f_Ledgers_put_line = some ⟨oc_Ledgers_put_line, od_Ledgers_put_line, .func (PySem.W.fnOf "put_line" "Ledgers.put_line" (defArgs s_Ledgers_put_line) (defBody s_Ledgers_put_line) (defScope s_Ledgers_put_line) .none kV_Ledgers_put_line dc_Ledgers_put_line pm_Ledgers_put_line an_Ledgers_put_line cd_Ledgers_put_line ct_Ledgers_put_line), sl_Ledgers_put_line⟩)
    (c_Ledgers_put_line : PySem.W.codeIn K cd_Ledgers_put_line "Ledgers.put_line" = true)
    (k_Ledgers_put_line : PySem.W.keepIn K (.ref f_Ledgers_put_line) = true)
    (a_Ledgers_run : PySem.W.findIn K (.ref C_Ledgers) "run" = some (some (.ref f_Ledgers_run)))
    (i_Ledgers_run : PySem.W.isFn K (.ref f_Ledgers_run) = true)
    (l_Ledgers_run : K.lookup f_Ledgers_run = some ⟨oc_Ledgers_run, od_Ledgers_run, .func (PySem.W.fnOf "run" "Ledgers.run" (defArgs s_Ledgers_run) (defBody s_Ledgers_run) (defScope s_Ledgers_run) .none kV_Ledgers_run dc_Ledgers_run pm_Ledgers_run an_Ledgers_run cd_Ledgers_run ct_Ledgers_run), sl_Ledgers_run⟩)
    (c_Ledgers_run : PySem.W.codeIn K cd_Ledgers_run "Ledgers.run" = true)
    (k_Ledgers_run : PySem.W.keepIn K (.ref f_Ledgers_run) = true)
    (a_Ledgers_wrongs : PySem.W.findIn K (.ref C_Ledgers) "wrongs" = some (some (.ref f_Ledgers_wrongs)))
    (i_Ledgers_wrongs : PySem.W.isFn K (.ref f_Ledgers_wrongs) = true)
    (l_Ledgers_wrongs : K.lookup f_Ledgers_wrongs = some ⟨oc_Ledgers_wrongs, od_Ledgers_wrongs, .func (PySem.W.fnOf "wrongs" "Ledgers.wrongs" (defArgs s_Ledgers_wrongs) (defBody s_Ledgers_wrongs) (defScope s_Ledgers_wrongs) .none kV_Ledgers_wrongs dc_Ledgers_wrongs pm_Ledgers_wrongs an_Ledgers_wrongs cd_Ledgers_wrongs ct_Ledgers_wrongs), sl_Ledgers_wrongs⟩)
    (c_Ledgers_wrongs : PySem.W.codeIn K cd_Ledgers_wrongs "Ledgers.wrongs" = true)
    (k_Ledgers_wrongs : PySem.W.keepIn K (.ref f_Ledgers_wrongs) = true)
    (a_OldLine_closing : PySem.W.findIn K (.ref C_OldLine) "closing" = some (some (.ref f_OldLine_closing)))
    (i_OldLine_closing : PySem.W.isFn K (.ref f_OldLine_closing) = true)
    (l_OldLine_closing : K.lookup f_OldLine_closing = some ⟨oc_OldLine_closing, od_OldLine_closing, .func (PySem.W.fnOf "closing" "OldLine.closing" (defArgs s_OldLine_closing) (defBody s_OldLine_closing) (defScope s_OldLine_closing) .none kV_OldLine_closing dc_OldLine_closing pm_OldLine_closing an_OldLine_closing cd_OldLine_closing ct_OldLine_closing), sl_OldLine_closing⟩)
    (c_OldLine_closing : PySem.W.codeIn K cd_OldLine_closing "OldLine.closing" = true)
    (k_OldLine_closing : PySem.W.keepIn K (.ref f_OldLine_closing) = true)
    (a_NewLine_is_own : PySem.W.findIn K (.ref C_NewLine) "is_own" = some (some (.ref f_NewLine_is_own)))
    (i_NewLine_is_own : PySem.W.isFn K (.ref f_NewLine_is_own) = true)
    (l_NewLine_is_own : K.lookup f_NewLine_is_own = some ⟨oc_NewLine_is_own, od_NewLine_is_own, .func (PySem.W.fnOf "is_own" "NewLine.is_own" (defArgs s_NewLine_is_own) (defBody s_NewLine_is_own) (defScope s_NewLine_is_own) .none kV_NewLine_is_own dc_NewLine_is_own pm_NewLine_is_own an_NewLine_is_own cd_NewLine_is_own ct_NewLine_is_own), sl_NewLine_is_own⟩)
    (c_NewLine_is_own : PySem.W.codeIn K cd_NewLine_is_own "NewLine.is_own" = true)
    (k_NewLine_is_own : PySem.W.keepIn K (.ref f_NewLine_is_own) = true)
    (a_Ledgers_made_lines : PySem.W.findIn K (.ref C_Ledgers) "made_lines" = some (some (.ref f_Ledgers_made_lines)))
    (i_Ledgers_made_lines : PySem.W.isFn K (.ref f_Ledgers_made_lines) = true)
    (l_Ledgers_made_lines : K.lookup f_Ledgers_made_lines = some ⟨oc_Ledgers_made_lines, od_Ledgers_made_lines, .func (PySem.W.fnOf "made_lines" "Ledgers.made_lines" (defArgs s_Ledgers_made_lines) (defBody s_Ledgers_made_lines) (defScope s_Ledgers_made_lines) .none kV_Ledgers_made_lines dc_Ledgers_made_lines pm_Ledgers_made_lines an_Ledgers_made_lines cd_Ledgers_made_lines ct_Ledgers_made_lines), sl_Ledgers_made_lines⟩)
    (c_Ledgers_made_lines : PySem.W.codeIn K cd_Ledgers_made_lines "Ledgers.made_lines" = true)
    (k_Ledgers_made_lines : PySem.W.keepIn K (.ref f_Ledgers_made_lines) = true)
    (a_Ledgers_source_of : PySem.W.findIn K (.ref C_Ledgers) "source_of" = some (some (.ref f_Ledgers_source_of)))
    (i_Ledgers_source_of : PySem.W.isFn K (.ref f_Ledgers_source_of) = true)
    (l_Ledgers_source_of : K.lookup f_Ledgers_source_of = some ⟨oc_Ledgers_source_of, od_Ledgers_source_of, .func (PySem.W.fnOf "source_of" "Ledgers.source_of" (defArgs s_Ledgers_source_of) (defBody s_Ledgers_source_of) (defScope s_Ledgers_source_of) .none kV_Ledgers_source_of dc_Ledgers_source_of pm_Ledgers_source_of an_Ledgers_source_of cd_Ledgers_source_of ct_Ledgers_source_of), sl_Ledgers_source_of⟩)
    (c_Ledgers_source_of : PySem.W.codeIn K cd_Ledgers_source_of "Ledgers.source_of" = true)
    (k_Ledgers_source_of : PySem.W.keepIn K (.ref f_Ledgers_source_of) = true)
    (a_Ledgers_is_in : PySem.W.findIn K (.ref C_Ledgers) "is_in" = some (some (.ref f_Ledgers_is_in)))
    (i_Ledgers_is_in : PySem.W.isFn K (.ref f_Ledgers_is_in) = true)
    (l_Ledgers_is_in : K.lookup f_Ledgers_is_in = some ⟨oc_Ledgers_is_in, od_Ledgers_is_in, .func (PySem.W.fnOf "is_in" "Ledgers.is_in" (defArgs s_Ledgers_is_in) (defBody s_Ledgers_is_in) (defScope s_Ledgers_is_in) .none kV_Ledgers_is_in dc_Ledgers_is_in pm_Ledgers_is_in an_Ledgers_is_in cd_Ledgers_is_in ct_Ledgers_is_in), sl_Ledgers_is_in⟩)
    (c_Ledgers_is_in : PySem.W.codeIn K cd_Ledgers_is_in "Ledgers.is_in" = true)
    (k_Ledgers_is_in : PySem.W.keepIn K (.ref f_Ledgers_is_in) = true)
    (a_Ledgers_make : PySem.W.findIn K (.ref C_Ledgers) "make" = some (some (.ref f_Ledgers_make)))
    (i_Ledgers_make : PySem.W.isFn K (.ref f_Ledgers_make) = true)
    (l_Ledgers_make : K.lookup f_Ledgers_make = some ⟨oc_Ledgers_make, od_Ledgers_make, .func (PySem.W.fnOf "make" "Ledgers.make" (defArgs s_Ledgers_make) (defBody s_Ledgers_make) (defScope s_Ledgers_make) .none kV_Ledgers_make dc_Ledgers_make pm_Ledgers_make an_Ledgers_make cd_Ledgers_make ct_Ledgers_make), sl_Ledgers_make⟩)
    (c_Ledgers_make : PySem.W.codeIn K cd_Ledgers_make "Ledgers.make" = true)
    (k_Ledgers_make : PySem.W.keepIn K (.ref f_Ledgers_make) = true)
    (a_Ledgers_drop : PySem.W.findIn K (.ref C_Ledgers) "drop" = some (some (.ref f_Ledgers_drop)))
    (i_Ledgers_drop : PySem.W.isFn K (.ref f_Ledgers_drop) = true)
    (l_Ledgers_drop : K.lookup f_Ledgers_drop = some ⟨oc_Ledgers_drop, od_Ledgers_drop, .func (PySem.W.fnOf "drop" "Ledgers.drop" (defArgs s_Ledgers_drop) (defBody s_Ledgers_drop) (defScope s_Ledgers_drop) .none kV_Ledgers_drop dc_Ledgers_drop pm_Ledgers_drop an_Ledgers_drop cd_Ledgers_drop ct_Ledgers_drop), sl_Ledgers_drop⟩)
    (c_Ledgers_drop : PySem.W.codeIn K cd_Ledgers_drop "Ledgers.drop" = true)
    (k_Ledgers_drop : PySem.W.keepIn K (.ref f_Ledgers_drop) = true)
    (a_Ledgers_follow : PySem.W.findIn K (.ref C_Ledgers) "follow" = some (some (.ref f_Ledgers_follow)))
    (i_Ledgers_follow : PySem.W.isFn K (.ref f_Ledgers_follow) = true)
    (l_Ledgers_follow : K.lookup f_Ledgers_follow = some ⟨oc_Ledgers_follow, od_Ledgers_follow, .func (PySem.W.fnOf "follow" "Ledgers.follow" (defArgs s_Ledgers_follow) (defBody s_Ledgers_follow) (defScope s_Ledgers_follow) .none kV_Ledgers_follow dc_Ledgers_follow pm_Ledgers_follow an_Ledgers_follow cd_Ledgers_follow ct_Ledgers_follow), sl_Ledgers_follow⟩)
    (c_Ledgers_follow : PySem.W.codeIn K cd_Ledgers_follow "Ledgers.follow" = true)
    (k_Ledgers_follow : PySem.W.keepIn K (.ref f_Ledgers_follow) = true)
    (a_Ledgers_old_wrongs : PySem.W.findIn K (.ref C_Ledgers) "old_wrongs" = some (some (.ref f_Ledgers_old_wrongs)))
    (i_Ledgers_old_wrongs : PySem.W.isFn K (.ref f_Ledgers_old_wrongs) = true)
    (l_Ledgers_old_wrongs : K.lookup f_Ledgers_old_wrongs = some ⟨oc_Ledgers_old_wrongs, od_Ledgers_old_wrongs, .func (PySem.W.fnOf "old_wrongs" "Ledgers.old_wrongs" (defArgs s_Ledgers_old_wrongs) (defBody s_Ledgers_old_wrongs) (defScope s_Ledgers_old_wrongs) .none kV_Ledgers_old_wrongs dc_Ledgers_old_wrongs pm_Ledgers_old_wrongs an_Ledgers_old_wrongs cd_Ledgers_old_wrongs ct_Ledgers_old_wrongs), sl_Ledgers_old_wrongs⟩)
    (c_Ledgers_old_wrongs : PySem.W.codeIn K cd_Ledgers_old_wrongs "Ledgers.old_wrongs" = true)
    (k_Ledgers_old_wrongs : PySem.W.keepIn K (.ref f_Ledgers_old_wrongs) = true)
    (a_Ledgers_typed_wrongs : PySem.W.findIn K (.ref C_Ledgers) "typed_wrongs" = some (some (.ref f_Ledgers_typed_wrongs)))
    (i_Ledgers_typed_wrongs : PySem.W.isFn K (.ref f_Ledgers_typed_wrongs) = true)
    (l_Ledgers_typed_wrongs : K.lookup f_Ledgers_typed_wrongs = some ⟨oc_Ledgers_typed_wrongs, od_Ledgers_typed_wrongs, .func (PySem.W.fnOf "typed_wrongs" "Ledgers.typed_wrongs" (defArgs s_Ledgers_typed_wrongs) (defBody s_Ledgers_typed_wrongs) (defScope s_Ledgers_typed_wrongs) .none kV_Ledgers_typed_wrongs dc_Ledgers_typed_wrongs pm_Ledgers_typed_wrongs an_Ledgers_typed_wrongs cd_Ledgers_typed_wrongs ct_Ledgers_typed_wrongs), sl_Ledgers_typed_wrongs⟩)
    (c_Ledgers_typed_wrongs : PySem.W.codeIn K cd_Ledgers_typed_wrongs "Ledgers.typed_wrongs" = true)
    (k_Ledgers_typed_wrongs : PySem.W.keepIn K (.ref f_Ledgers_typed_wrongs) = true)
    (a_OldLine_twin : PySem.W.findIn K (.ref C_OldLine) "twin" = some (some (.ref f_OldLine_twin)))
    (i_OldLine_twin : PySem.W.isFn K (.ref f_OldLine_twin) = true)
    (l_OldLine_twin : K.lookup f_OldLine_twin = some ⟨oc_OldLine_twin, od_OldLine_twin, .func (PySem.W.fnOf "twin" "OldLine.twin" (defArgs s_OldLine_twin) (defBody s_OldLine_twin) (defScope s_OldLine_twin) .none kV_OldLine_twin dc_OldLine_twin pm_OldLine_twin an_OldLine_twin cd_OldLine_twin ct_OldLine_twin), sl_OldLine_twin⟩)
    (c_OldLine_twin : PySem.W.codeIn K cd_OldLine_twin "OldLine.twin" = true)
    (k_OldLine_twin : PySem.W.keepIn K (.ref f_OldLine_twin) = true)
    (a_NewLine_twin : PySem.W.findIn K (.ref C_NewLine) "twin" = some (some (.ref f_NewLine_twin)))
    (i_NewLine_twin : PySem.W.isFn K (.ref f_NewLine_twin) = true)
    (l_NewLine_twin : K.lookup f_NewLine_twin = some ⟨oc_NewLine_twin, od_NewLine_twin, .func (PySem.W.fnOf "twin" "NewLine.twin" (defArgs s_NewLine_twin) (defBody s_NewLine_twin) (defScope s_NewLine_twin) .none kV_NewLine_twin dc_NewLine_twin pm_NewLine_twin an_NewLine_twin cd_NewLine_twin ct_NewLine_twin), sl_NewLine_twin⟩)
    (c_NewLine_twin : PySem.W.codeIn K cd_NewLine_twin "NewLine.twin" = true)
    (k_NewLine_twin : PySem.W.keepIn K (.ref f_NewLine_twin) = true)
    (a_Ledgers_twin : PySem.W.findIn K (.ref C_Ledgers) "twin" = some (some (.ref f_Ledgers_twin)))
    (i_Ledgers_twin : PySem.W.isFn K (.ref f_Ledgers_twin) = true)
    (l_Ledgers_twin : K.lookup f_Ledgers_twin = some ⟨oc_Ledgers_twin, od_Ledgers_twin, .func (PySem.W.fnOf "twin" "Ledgers.twin" (defArgs s_Ledgers_twin) (defBody s_Ledgers_twin) (defScope s_Ledgers_twin) .none kV_Ledgers_twin dc_Ledgers_twin pm_Ledgers_twin an_Ledgers_twin cd_Ledgers_twin ct_Ledgers_twin), sl_Ledgers_twin⟩)
    (c_Ledgers_twin : PySem.W.codeIn K cd_Ledgers_twin "Ledgers.twin" = true)
    (k_Ledgers_twin : PySem.W.keepIn K (.ref f_Ledgers_twin) = true)
    (a_is_step : PySem.W.nsIn K mainGlobals "is_step" = some (some (.ref f_is_step)))
    (l_is_step : K.lookup f_is_step = some ⟨oc_is_step, od_is_step, .func (PySem.W.fnOf "is_step" "is_step" (defArgs s_is_step) (defBody s_is_step) (defScope s_is_step) .none kV_is_step dc_is_step pm_is_step an_is_step cd_is_step ct_is_step), sl_is_step⟩)
    (c_is_step : PySem.W.codeIn K cd_is_step "is_step" = true)
    (k_is_step : PySem.W.keepIn K (.ref f_is_step) = true)
    (a_Script_init : PySem.W.findIn K (.ref C_Script) "__init__" = some (some (.ref f_Script_init)))
    (i_Script_init : PySem.W.isFn K (.ref f_Script_init) = true)
    (l_Script_init : K.lookup f_Script_init = some ⟨oc_Script_init, od_Script_init, .func (PySem.W.fnOf "__init__" "Script.__init__" (defArgs s_Script_init) (defBody s_Script_init) (defScope s_Script_init) .none kV_Script_init dc_Script_init pm_Script_init an_Script_init cd_Script_init ct_Script_init), sl_Script_init⟩)
    (c_Script_init : PySem.W.codeIn K cd_Script_init "Script.__init__" = true)
    (k_Script_init : PySem.W.keepIn K (.ref f_Script_init) = true)
    (a_Script_steps : PySem.W.findIn K (.ref C_Script) "steps" = some (some (.ref f_Script_steps)))
    (i_Script_steps : PySem.W.isFn K (.ref f_Script_steps) = true)
    (l_Script_steps : K.lookup f_Script_steps = some ⟨oc_Script_steps, od_Script_steps, .func (PySem.W.fnOf "steps" "Script.steps" (defArgs s_Script_steps) (defBody s_Script_steps) (defScope s_Script_steps) .none kV_Script_steps dc_Script_steps pm_Script_steps an_Script_steps cd_Script_steps ct_Script_steps), sl_Script_steps⟩)
    (c_Script_steps : PySem.W.codeIn K cd_Script_steps "Script.steps" = true)
    (k_Script_steps : PySem.W.keepIn K (.ref f_Script_steps) = true)
    (a_check_all : PySem.W.nsIn K mainGlobals "check_all" = some (some (.ref f_check_all)))
    (l_check_all : K.lookup f_check_all = some ⟨oc_check_all, od_check_all, .func (PySem.W.fnOf "check_all" "check_all" (defArgs s_check_all) (defBody s_check_all) (defScope s_check_all) .none kV_check_all dc_check_all pm_check_all an_check_all cd_check_all ct_check_all), sl_check_all⟩)
    (c_check_all : PySem.W.codeIn K cd_check_all "check_all" = true)
    (k_check_all : PySem.W.keepIn K (.ref f_check_all) = true)
    (a_Years_init : PySem.W.findIn K (.ref C_Years) "__init__" = some (some (.ref f_Years_init)))
    (i_Years_init : PySem.W.isFn K (.ref f_Years_init) = true)
    (l_Years_init : K.lookup f_Years_init = some ⟨oc_Years_init, od_Years_init, .func (PySem.W.fnOf "__init__" "Years.__init__" (defArgs s_Years_init) (defBody s_Years_init) (defScope s_Years_init) .none kV_Years_init dc_Years_init pm_Years_init an_Years_init cd_Years_init ct_Years_init), sl_Years_init⟩)
    (c_Years_init : PySem.W.codeIn K cd_Years_init "Years.__init__" = true)
    (k_Years_init : PySem.W.keepIn K (.ref f_Years_init) = true)
    (a_Years_len : PySem.W.findIn K (.ref C_Years) "__len__" = some (some (.ref f_Years_len)))
    (i_Years_len : PySem.W.isFn K (.ref f_Years_len) = true)
    (l_Years_len : K.lookup f_Years_len = some ⟨oc_Years_len, od_Years_len, .func (PySem.W.fnOf "__len__" "Years.__len__" (defArgs s_Years_len) (defBody s_Years_len) (defScope s_Years_len) .none kV_Years_len dc_Years_len pm_Years_len an_Years_len cd_Years_len ct_Years_len), sl_Years_len⟩)
    (c_Years_len : PySem.W.codeIn K cd_Years_len "Years.__len__" = true)
    (k_Years_len : PySem.W.keepIn K (.ref f_Years_len) = true)
    (a_Years_runs : PySem.W.findIn K (.ref C_Years) "runs" = some (some (.ref pp_Years_runs)))
    (pg_Years_runs : PySem.W.specialIn K (.ref pp_Years_runs) "__get__" = some (some (.builtin "property.__get__")))
    (pt_Years_runs : PySem.W.takesIn K (.ref pp_Years_runs) = some true)
    (pr_Years_runs : PySem.W.recIn K pp_Years_runs "property" = some (.ref f_Years_runs :: pz_Years_runs))
    (l_Years_runs : K.lookup f_Years_runs = some ⟨oc_Years_runs, od_Years_runs, .func (PySem.W.fnOf "runs" "Years.runs" (defArgs s_Years_runs) (defBody s_Years_runs) (defScope s_Years_runs) .none kV_Years_runs dc_Years_runs pm_Years_runs an_Years_runs cd_Years_runs ct_Years_runs), sl_Years_runs⟩)
    (c_Years_runs : PySem.W.codeIn K cd_Years_runs "Years.runs" = true)
    (k_Years_runs : PySem.W.keepIn K (.ref f_Years_runs) = true)
    (a_Years_script : PySem.W.findIn K (.ref C_Years) "script" = some (some (.ref pp_Years_script)))
    (pg_Years_script : PySem.W.specialIn K (.ref pp_Years_script) "__get__" = some (some (.builtin "property.__get__")))
    (pt_Years_script : PySem.W.takesIn K (.ref pp_Years_script) = some true)
    (pr_Years_script : PySem.W.recIn K pp_Years_script "property" = some (.ref f_Years_script :: pz_Years_script))
    (l_Years_script : K.lookup f_Years_script = some ⟨oc_Years_script, od_Years_script, .func (PySem.W.fnOf "script" "Years.script" (defArgs s_Years_script) (defBody s_Years_script) (defScope s_Years_script) .none kV_Years_script dc_Years_script pm_Years_script an_Years_script cd_Years_script ct_Years_script), sl_Years_script⟩)
    (c_Years_script : PySem.W.codeIn K cd_Years_script "Years.script" = true)
    (k_Years_script : PySem.W.keepIn K (.ref f_Years_script) = true)
    (a_Years_remember : PySem.W.findIn K (.ref C_Years) "remember" = some (some (.ref f_Years_remember)))
    (i_Years_remember : PySem.W.isFn K (.ref f_Years_remember) = true)
    (l_Years_remember : K.lookup f_Years_remember = some ⟨oc_Years_remember, od_Years_remember, .func (PySem.W.fnOf "remember" "Years.remember" (defArgs s_Years_remember) (defBody s_Years_remember) (defScope s_Years_remember) .none kV_Years_remember dc_Years_remember pm_Years_remember an_Years_remember cd_Years_remember ct_Years_remember), sl_Years_remember⟩)
    (c_Years_remember : PySem.W.codeIn K cd_Years_remember "Years.remember" = true)
    (k_Years_remember : PySem.W.keepIn K (.ref f_Years_remember) = true)
    (a_Years_play_all : PySem.W.findIn K (.ref C_Years) "play_all" = some (some (.ref f_Years_play_all)))
    (i_Years_play_all : PySem.W.isFn K (.ref f_Years_play_all) = true)
    (l_Years_play_all : K.lookup f_Years_play_all = some ⟨oc_Years_play_all, od_Years_play_all, .func (PySem.W.fnOf "play_all" "Years.play_all" (defArgs s_Years_play_all) (defBody s_Years_play_all) (defScope s_Years_play_all) .none kV_Years_play_all dc_Years_play_all pm_Years_play_all an_Years_play_all cd_Years_play_all ct_Years_play_all), sl_Years_play_all⟩)
    (c_Years_play_all : PySem.W.codeIn K cd_Years_play_all "Years.play_all" = true)
    (k_Years_play_all : PySem.W.keepIn K (.ref f_Years_play_all) = true)
    (a_Years_do : PySem.W.findIn K (.ref C_Years) "do" = some (some (.ref f_Years_do)))
    (i_Years_do : PySem.W.isFn K (.ref f_Years_do) = true)
    (l_Years_do : K.lookup f_Years_do = some ⟨oc_Years_do, od_Years_do, .func (PySem.W.fnOf "do" "Years.do" (defArgs s_Years_do) (defBody s_Years_do) (defScope s_Years_do) .none kV_Years_do dc_Years_do pm_Years_do an_Years_do cd_Years_do ct_Years_do), sl_Years_do⟩)
    (c_Years_do : PySem.W.codeIn K cd_Years_do "Years.do" = true)
    (k_Years_do : PySem.W.keepIn K (.ref f_Years_do) = true)
    (a_Years_do_all : PySem.W.findIn K (.ref C_Years) "do_all" = some (some (.ref f_Years_do_all)))
    (i_Years_do_all : PySem.W.isFn K (.ref f_Years_do_all) = true)
    (l_Years_do_all : K.lookup f_Years_do_all = some ⟨oc_Years_do_all, od_Years_do_all, .func (PySem.W.fnOf "do_all" "Years.do_all" (defArgs s_Years_do_all) (defBody s_Years_do_all) (defScope s_Years_do_all) .none kV_Years_do_all dc_Years_do_all pm_Years_do_all an_Years_do_all cd_Years_do_all ct_Years_do_all), sl_Years_do_all⟩)
    (c_Years_do_all : PySem.W.codeIn K cd_Years_do_all "Years.do_all" = true)
    (k_Years_do_all : PySem.W.keepIn K (.ref f_Years_do_all) = true)
    (a_Years_change : PySem.W.findIn K (.ref C_Years) "change" = some (some (.ref f_Years_change)))
    (i_Years_change : PySem.W.isFn K (.ref f_Years_change) = true)
    (l_Years_change : K.lookup f_Years_change = some ⟨oc_Years_change, od_Years_change, .func (PySem.W.fnOf "change" "Years.change" (defArgs s_Years_change) (defBody s_Years_change) (defScope s_Years_change) .none kV_Years_change dc_Years_change pm_Years_change an_Years_change cd_Years_change ct_Years_change), sl_Years_change⟩)
    (c_Years_change : PySem.W.codeIn K cd_Years_change "Years.change" = true)
    (k_Years_change : PySem.W.keepIn K (.ref f_Years_change) = true)
    (a_Years_undo : PySem.W.findIn K (.ref C_Years) "undo" = some (some (.ref f_Years_undo)))
    (i_Years_undo : PySem.W.isFn K (.ref f_Years_undo) = true)
    (l_Years_undo : K.lookup f_Years_undo = some ⟨oc_Years_undo, od_Years_undo, .func (PySem.W.fnOf "undo" "Years.undo" (defArgs s_Years_undo) (defBody s_Years_undo) (defScope s_Years_undo) .none kV_Years_undo dc_Years_undo pm_Years_undo an_Years_undo cd_Years_undo ct_Years_undo), sl_Years_undo⟩)
    (c_Years_undo : PySem.W.codeIn K cd_Years_undo "Years.undo" = true)
    (k_Years_undo : PySem.W.keepIn K (.ref f_Years_undo) = true)
    (a_Years_old : PySem.W.findIn K (.ref C_Years) "old" = some (some (.ref f_Years_old)))
    (i_Years_old : PySem.W.isFn K (.ref f_Years_old) = true)
    (l_Years_old : K.lookup f_Years_old = some ⟨oc_Years_old, od_Years_old, .func (PySem.W.fnOf "old" "Years.old" (defArgs s_Years_old) (defBody s_Years_old) (defScope s_Years_old) .none kV_Years_old dc_Years_old pm_Years_old an_Years_old cd_Years_old ct_Years_old), sl_Years_old⟩)
    (c_Years_old : PySem.W.codeIn K cd_Years_old "Years.old" = true)
    (k_Years_old : PySem.W.keepIn K (.ref f_Years_old) = true)
    (a_Years_new : PySem.W.findIn K (.ref C_Years) "new" = some (some (.ref f_Years_new)))
    (i_Years_new : PySem.W.isFn K (.ref f_Years_new) = true)
    (l_Years_new : K.lookup f_Years_new = some ⟨oc_Years_new, od_Years_new, .func (PySem.W.fnOf "new" "Years.new" (defArgs s_Years_new) (defBody s_Years_new) (defScope s_Years_new) .none kV_Years_new dc_Years_new pm_Years_new an_Years_new cd_Years_new ct_Years_new), sl_Years_new⟩)
    (c_Years_new : PySem.W.codeIn K cd_Years_new "Years.new" = true)
    (k_Years_new : PySem.W.keepIn K (.ref f_Years_new) = true)
    (a_Years_faults : PySem.W.findIn K (.ref C_Years) "faults" = some (some (.ref f_Years_faults)))
    (i_Years_faults : PySem.W.isFn K (.ref f_Years_faults) = true)
    (l_Years_faults : K.lookup f_Years_faults = some ⟨oc_Years_faults, od_Years_faults, .func (PySem.W.fnOf "faults" "Years.faults" (defArgs s_Years_faults) (defBody s_Years_faults) (defScope s_Years_faults) .none kV_Years_faults dc_Years_faults pm_Years_faults an_Years_faults cd_Years_faults ct_Years_faults), sl_Years_faults⟩)
    (c_Years_faults : PySem.W.codeIn K cd_Years_faults "Years.faults" = true)
    (k_Years_faults : PySem.W.keepIn K (.ref f_Years_faults) = true)
    (a_Years_made_of : PySem.W.findIn K (.ref C_Years) "made_of" = some (some (.ref f_Years_made_of)))
    (i_Years_made_of : PySem.W.isFn K (.ref f_Years_made_of) = true)
    (l_Years_made_of : K.lookup f_Years_made_of = some ⟨oc_Years_made_of, od_Years_made_of, .func (PySem.W.fnOf "made_of" "Years.made_of" (defArgs s_Years_made_of) (defBody s_Years_made_of) (defScope s_Years_made_of) .none kV_Years_made_of dc_Years_made_of pm_Years_made_of an_Years_made_of cd_Years_made_of ct_Years_made_of), sl_Years_made_of⟩)
    (c_Years_made_of : PySem.W.codeIn K cd_Years_made_of "Years.made_of" = true)
    (k_Years_made_of : PySem.W.keepIn K (.ref f_Years_made_of) = true)
    (a_jar : PySem.W.nsIn K mainGlobals "_law_jar" = some (some (.ref f_jar)))
    (l_jar : K.lookup f_jar = some ⟨oc_jar, od_jar, .func (PySem.W.fnOf "_law_jar" "_law_jar" (defArgs s_jar) (defBody s_jar) (defScope s_jar) .none kV_jar dc_jar pm_jar an_jar cd_jar ct_jar), sl_jar⟩)
    (c_jar : PySem.W.codeIn K cd_jar "_law_jar" = true)
    (k_jar : PySem.W.keepIn K (.ref f_jar) = true)
    (a_draw : PySem.W.nsIn K mainGlobals "_law_draw" = some (some (.ref f_draw)))
    (l_draw : K.lookup f_draw = some ⟨oc_draw, od_draw, .func (PySem.W.fnOf "_law_draw" "_law_draw" (defArgs s_draw) (defBody s_draw) (defScope s_draw) .none kV_draw dc_draw pm_draw an_draw cd_draw ct_draw), sl_draw⟩)
    (c_draw : PySem.W.codeIn K cd_draw "_law_draw" = true)
    (k_draw : PySem.W.keepIn K (.ref f_draw) = true)
    (a_any_step : PySem.W.nsIn K mainGlobals "_law_any_step" = some (some (.ref f_any_step)))
    (l_any_step : K.lookup f_any_step = some ⟨oc_any_step, od_any_step, .func (PySem.W.fnOf "_law_any_step" "_law_any_step" (defArgs s_any_step) (defBody s_any_step) (defScope s_any_step) .none kV_any_step dc_any_step pm_any_step an_any_step cd_any_step ct_any_step), sl_any_step⟩)
    (c_any_step : PySem.W.codeIn K cd_any_step "_law_any_step" = true)
    (k_any_step : PySem.W.keepIn K (.ref f_any_step) = true)
    (a_plan : PySem.W.nsIn K mainGlobals "_law_plan" = some (some (.ref f_plan)))
    (l_plan : K.lookup f_plan = some ⟨oc_plan, od_plan, .func (PySem.W.fnOf "_law_plan" "_law_plan" (defArgs s_plan) (defBody s_plan) (defScope s_plan) .none kV_plan dc_plan pm_plan an_plan cd_plan ct_plan), sl_plan⟩)
    (c_plan : PySem.W.codeIn K cd_plan "_law_plan" = true)
    (k_plan : PySem.W.keepIn K (.ref f_plan) = true)
    (a_act : PySem.W.nsIn K mainGlobals "_law_act" = some (some (.ref f_act)))
    (l_act : K.lookup f_act = some ⟨oc_act, od_act, .func (PySem.W.fnOf "_law_act" "_law_act" (defArgs s_act) (defBody s_act) (defScope s_act) .none kV_act dc_act pm_act an_act cd_act ct_act), sl_act⟩)
    (c_act : PySem.W.codeIn K cd_act "_law_act" = true)
    (k_act : PySem.W.keepIn K (.ref f_act) = true)
    (a_stand : PySem.W.nsIn K mainGlobals "_law_stand" = some (some (.ref f_stand)))
    (l_stand : K.lookup f_stand = some ⟨oc_stand, od_stand, .func (PySem.W.fnOf "_law_stand" "_law_stand" (defArgs s_stand) (defBody s_stand) (defScope s_stand) .none kV_stand dc_stand pm_stand an_stand cd_stand ct_stand), sl_stand⟩)
    (c_stand : PySem.W.codeIn K cd_stand "_law_stand" = true)
    (k_stand : PySem.W.keepIn K (.ref f_stand) = true)
    (a_called : PySem.W.nsIn K mainGlobals "_law_called" = some (some (.ref f_called)))
    (l_called : K.lookup f_called = some ⟨oc_called, od_called, .func (PySem.W.fnOf "_law_called" "_law_called" (defArgs s_called) (defBody s_called) (defScope s_called) .none kV_called dc_called pm_called an_called cd_called ct_called), sl_called⟩)
    (c_called : PySem.W.codeIn K cd_called "_law_called" = true)
    (k_called : PySem.W.keepIn K (.ref f_called) = true)
    (a_right : PySem.W.nsIn K mainGlobals "_law_right" = some (some (.ref f_right)))
    (l_right : K.lookup f_right = some ⟨oc_right, od_right, .func (PySem.W.fnOf "_law_right" "_law_right" (defArgs s_right) (defBody s_right) (defScope s_right) .none kV_right dc_right pm_right an_right cd_right ct_right), sl_right⟩)
    (c_right : PySem.W.codeIn K cd_right "_law_right" = true)
    (k_right : PySem.W.keepIn K (.ref f_right) = true)
    (a_law : PySem.W.nsIn K mainGlobals "law" = some (some (.ref f_law)))
    (l_law : K.lookup f_law = some ⟨oc_law, od_law, .func (PySem.W.fnOf "law" "law" (defArgs s_law) (defBody s_law) (defScope s_law) .none kV_law dc_law pm_law an_law cd_law ct_law), sl_law⟩)
    (c_law : PySem.W.codeIn K cd_law "law" = true)
    (k_law : PySem.W.keepIn K (.ref f_law) = true)
    (pg_Script : PySem.W.plainGet K C_Script Str.empty = true)
    (hd_Script : PySem.W.hasDictIn K C_Script = true)
    (po_Script : PySem.W.plainOver K C_Script = true)
    (sa_Script : PySem.W.findIn K (.ref C_Script) "__setattr__" = some (some (.builtin "object.__setattr__")))
    (mk_Script : PySem.W.makesIn K C_Script = true)
    (kc_Script : PySem.W.keepIn K (.ref C_Script) = true)
    (ha_Script : PySem.W.findIn K (.ref C_Script) "__class__" = some (some (.builtin "object.__class__")))
    (hm_Script : PySem.W.mroIn K C_Script (.type "object") = some true)
    (n_Script_kept_steps : PySem.W.findIn K (.ref C_Script) "kept_steps" = some none)
    (pg_OldLine : PySem.W.plainGet K C_OldLine Str.empty = true)
    (hd_OldLine : PySem.W.hasDictIn K C_OldLine = true)
    (po_OldLine : PySem.W.plainOver K C_OldLine = true)
    (sa_OldLine : PySem.W.findIn K (.ref C_OldLine) "__setattr__" = some (some (.builtin "object.__setattr__")))
    (mk_OldLine : PySem.W.makesIn K C_OldLine = true)
    (kc_OldLine : PySem.W.keepIn K (.ref C_OldLine) = true)
    (ha_OldLine : PySem.W.findIn K (.ref C_OldLine) "__class__" = some (some (.builtin "object.__class__")))
    (hm_OldLine : PySem.W.mroIn K C_OldLine (.type "object") = some true)
    (n_OldLine_number : PySem.W.findIn K (.ref C_OldLine) "number" = some none)
    (n_OldLine_label : PySem.W.findIn K (.ref C_OldLine) "label" = some none)
    (n_OldLine_start : PySem.W.findIn K (.ref C_OldLine) "start" = some none)
    (n_OldLine_moves : PySem.W.findIn K (.ref C_OldLine) "moves" = some none)
    (n_OldLine_tie : PySem.W.findIn K (.ref C_OldLine) "tie" = some none)
    (n_OldLine_standing : PySem.W.findIn K (.ref C_OldLine) "standing" = some none)
    (pg_NewLine : PySem.W.plainGet K C_NewLine Str.empty = true)
    (hd_NewLine : PySem.W.hasDictIn K C_NewLine = true)
    (po_NewLine : PySem.W.plainOver K C_NewLine = true)
    (sa_NewLine : PySem.W.findIn K (.ref C_NewLine) "__setattr__" = some (some (.builtin "object.__setattr__")))
    (mk_NewLine : PySem.W.makesIn K C_NewLine = true)
    (kc_NewLine : PySem.W.keepIn K (.ref C_NewLine) = true)
    (ha_NewLine : PySem.W.findIn K (.ref C_NewLine) "__class__" = some (some (.builtin "object.__class__")))
    (hm_NewLine : PySem.W.mroIn K C_NewLine (.type "object") = some true)
    (n_NewLine_number : PySem.W.findIn K (.ref C_NewLine) "number" = some none)
    (n_NewLine_label : PySem.W.findIn K (.ref C_NewLine) "label" = some none)
    (n_NewLine_start : PySem.W.findIn K (.ref C_NewLine) "start" = some none)
    (n_NewLine_source : PySem.W.findIn K (.ref C_NewLine) "source" = some none)
    (n_NewLine_moves : PySem.W.findIn K (.ref C_NewLine) "moves" = some none)
    (n_NewLine_tie : PySem.W.findIn K (.ref C_NewLine) "tie" = some none)
    (n_NewLine_typed : PySem.W.findIn K (.ref C_NewLine) "typed" = some none)
    (pg_Ledgers : PySem.W.plainGet K C_Ledgers Str.empty = true)
    (hd_Ledgers : PySem.W.hasDictIn K C_Ledgers = true)
    (po_Ledgers : PySem.W.plainOver K C_Ledgers = true)
    (sa_Ledgers : PySem.W.findIn K (.ref C_Ledgers) "__setattr__" = some (some (.builtin "object.__setattr__")))
    (mk_Ledgers : PySem.W.makesIn K C_Ledgers = true)
    (kc_Ledgers : PySem.W.keepIn K (.ref C_Ledgers) = true)
    (ha_Ledgers : PySem.W.findIn K (.ref C_Ledgers) "__class__" = some (some (.builtin "object.__class__")))
    (hm_Ledgers : PySem.W.mroIn K C_Ledgers (.type "object") = some true)
    (n_Ledgers_elder : PySem.W.findIn K (.ref C_Ledgers) "elder" = some none)
    (n_Ledgers_later : PySem.W.findIn K (.ref C_Ledgers) "later" = some none)
    (n_Ledgers_ever : PySem.W.findIn K (.ref C_Ledgers) "ever" = some none)
    (n_Ledgers_fresh : PySem.W.findIn K (.ref C_Ledgers) "fresh" = some none)
    (n_Ledgers_ahead : PySem.W.findIn K (.ref C_Ledgers) "ahead" = some none)
    (pg_Years : PySem.W.plainGet K C_Years Str.empty = true)
    (hd_Years : PySem.W.hasDictIn K C_Years = true)
    (po_Years : PySem.W.plainOver K C_Years = true)
    (sa_Years : PySem.W.findIn K (.ref C_Years) "__setattr__" = some (some (.builtin "object.__setattr__")))
    (mk_Years : PySem.W.makesIn K C_Years = true)
    (kc_Years : PySem.W.keepIn K (.ref C_Years) = true)
    (ha_Years : PySem.W.findIn K (.ref C_Years) "__class__" = some (some (.builtin "object.__class__")))
    (hm_Years : PySem.W.mroIn K C_Years (.type "object") = some true)
    (n_Years_plan : PySem.W.findIn K (.ref C_Years) "plan" = some none)
    (n_Years_ledgers : PySem.W.findIn K (.ref C_Years) "ledgers" = some none)
    (n_Years_story : PySem.W.findIn K (.ref C_Years) "story" = some none)
    (n_Years_wrong : PySem.W.findIn K (.ref C_Years) "wrong" = some none)
    (n_Years_past : PySem.W.findIn K (.ref C_Years) "past" = some none)
    (ne_Script_OldLine : C_Script ≠ C_OldLine)
    (ne_Script_NewLine : C_Script ≠ C_NewLine)
    (ne_Script_Ledgers : C_Script ≠ C_Ledgers)
    (ne_Script_Years : C_Script ≠ C_Years)
    (ne_OldLine_NewLine : C_OldLine ≠ C_NewLine)
    (ne_OldLine_Ledgers : C_OldLine ≠ C_Ledgers)
    (ne_OldLine_Years : C_OldLine ≠ C_Years)
    (ne_NewLine_Ledgers : C_NewLine ≠ C_Ledgers)
    (ne_NewLine_Years : C_NewLine ≠ C_Years)
    (ne_Ledgers_Years : C_Ledgers ≠ C_Years)
    (v_STEPS : PySem.W.nsIn K mainGlobals "STEPS" = some (some (.ref A_STEPS)))
    (w_STEPS_0 : K.lookup A_STEPS = some ⟨.type "tuple", dd_w_STEPS_0, .seq #[.ref A_STEPS_2, .ref A_STEPS_3, .ref A_STEPS_4, .ref A_STEPS_5, .ref A_STEPS_6, .ref A_STEPS_7, .ref A_STEPS_8, .ref A_STEPS_9, .ref A_STEPS_10, .ref A_STEPS_11, .ref A_STEPS_12, .ref A_STEPS_13] nn_w_STEPS_0, ss_w_STEPS_0⟩)
    (w_STEPS_13 : K.lookup A_STEPS_13 = some ⟨.type "tuple", dd_w_STEPS_13, .seq #[.str "drop" tk_STEPS_15] nn_w_STEPS_13, ss_w_STEPS_13⟩)
    (w_STEPS_15 : K.lookup A_STEPS_12 = some ⟨.type "tuple", dd_w_STEPS_15, .seq #[.str "tie" tk_STEPS_17, .str "free" tk_STEPS_18] nn_w_STEPS_15, ss_w_STEPS_15⟩)
    (w_STEPS_18 : K.lookup A_STEPS_11 = some ⟨.type "tuple", dd_w_STEPS_18, .seq #[.str "tie" tk_STEPS_20, .str "all" tk_STEPS_21] nn_w_STEPS_18, ss_w_STEPS_18⟩)
    (w_STEPS_21 : K.lookup A_STEPS_10 = some ⟨.type "tuple", dd_w_STEPS_21, .seq #[.str "tie" tk_STEPS_23, .str "new" tk_STEPS_24] nn_w_STEPS_21, ss_w_STEPS_21⟩)
    (w_STEPS_24 : K.lookup A_STEPS_9 = some ⟨.type "tuple", dd_w_STEPS_24, .seq #[.str "label" tk_STEPS_26, .str "free" tk_STEPS_27] nn_w_STEPS_24, ss_w_STEPS_24⟩)
    (w_STEPS_27 : K.lookup A_STEPS_8 = some ⟨.type "tuple", dd_w_STEPS_27, .seq #[.str "label" tk_STEPS_29, .str "all" tk_STEPS_30] nn_w_STEPS_27, ss_w_STEPS_27⟩)
    (w_STEPS_30 : K.lookup A_STEPS_7 = some ⟨.type "tuple", dd_w_STEPS_30, .seq #[.str "label" tk_STEPS_32, .str "new" tk_STEPS_33] nn_w_STEPS_30, ss_w_STEPS_30⟩)
    (w_STEPS_33 : K.lookup A_STEPS_6 = some ⟨.type "tuple", dd_w_STEPS_33, .seq #[.str "start" tk_STEPS_35, .str "free" tk_STEPS_36] nn_w_STEPS_33, ss_w_STEPS_33⟩)
    (w_STEPS_36 : K.lookup A_STEPS_5 = some ⟨.type "tuple", dd_w_STEPS_36, .seq #[.str "start" tk_STEPS_38, .str "all" tk_STEPS_39] nn_w_STEPS_36, ss_w_STEPS_36⟩)
    (w_STEPS_39 : K.lookup A_STEPS_4 = some ⟨.type "tuple", dd_w_STEPS_39, .seq #[.str "start" tk_STEPS_41, .str "new" tk_STEPS_42] nn_w_STEPS_39, ss_w_STEPS_39⟩)
    (w_STEPS_42 : K.lookup A_STEPS_3 = some ⟨.type "tuple", dd_w_STEPS_42, .seq #[.str "make" tk_STEPS_44, .str "standing" tk_STEPS_45] nn_w_STEPS_42, ss_w_STEPS_42⟩)
    (w_STEPS_45 : K.lookup A_STEPS_2 = some ⟨.type "tuple", dd_w_STEPS_45, .seq #[.str "make" tk_STEPS_47, .str "all" tk_STEPS_48] nn_w_STEPS_45, ss_w_STEPS_45⟩)
    (v_MOST_STEPS : PySem.W.nsIn K mainGlobals "MOST_STEPS" = some (some (.int 12 tk_MOST_STEPS)))
    (v_MOST_LABEL : PySem.W.nsIn K mainGlobals "MOST_LABEL" = some (some (.int 999999999999999999999999999999 tk_MOST_LABEL)))
    (v_MOST_AMOUNT : PySem.W.nsIn K mainGlobals "MOST_AMOUNT" = some (some (.int 1000000000000 tk_MOST_AMOUNT)))
    (v_MOST_NUMBER : PySem.W.nsIn K mainGlobals "MOST_NUMBER" = some (some (.int 1000000000 tk_MOST_NUMBER)))
    (z_len : PySem.W.nsIn K mainGlobals "len" = some none)
    (z_isinstance : PySem.W.nsIn K mainGlobals "isinstance" = some none)
    (z_int : PySem.W.nsIn K mainGlobals "int" = some none)
    (z_bool : PySem.W.nsIn K mainGlobals "bool" = some none)
    (z_str : PySem.W.nsIn K mainGlobals "str" = some none)
    (z_tuple : PySem.W.nsIn K mainGlobals "tuple" = some none)
    (z_list : PySem.W.nsIn K mainGlobals "list" = some none)
    (z_all : PySem.W.nsIn K mainGlobals "all" = some none)
    (z_max : PySem.W.nsIn K mainGlobals "max" = some none)
    (z_min : PySem.W.nsIn K mainGlobals "min" = some none)
    (z_abs : PySem.W.nsIn K mainGlobals "abs" = some none)
    (z_range : PySem.W.nsIn K mainGlobals "range" = some none)
    (z_enumerate : PySem.W.nsIn K mainGlobals "enumerate" = some none)
    (z_dict : PySem.W.nsIn K mainGlobals "dict" = some none) :
    ∃ T : Tx K mg, ∀ (s : Shared) (v : Value), BindsTo s T.law.fd ⟨[v], []⟩ [("script", v)] := ⟨{
    c_Script := C_Script, g_Script := PySem.W.mg_of X G nC_Script,
    c_OldLine := C_OldLine, g_OldLine := PySem.W.mg_of X G nC_OldLine,
    c_NewLine := C_NewLine, g_NewLine := PySem.W.mg_of X G nC_NewLine,
    c_Ledgers := C_Ledgers, g_Ledgers := PySem.W.mg_of X G nC_Ledgers,
    c_Years := C_Years, g_Years := PySem.W.mg_of X G nC_Years,
    is_whole := ⟨f_is_whole, _, fun_mk (st := s_is_whole) l_is_whole c_is_whole k_is_whole, PySem.W.mg_of X G a_is_whole, ((fun_mk (st := s_is_whole) l_is_whole c_is_whole k_is_whole).binds (ps := ["thing"]) fun _ _ _ _ _ _ us hl => match us, hl with | [_], _ => rfl)⟩,
    is_label := ⟨f_is_label, _, fun_mk (st := s_is_label) l_is_label c_is_label k_is_label, PySem.W.mg_of X G a_is_label, ((fun_mk (st := s_is_label) l_is_label c_is_label k_is_label).binds (ps := ["thing"]) fun _ _ _ _ _ _ us hl => match us, hl with | [_], _ => rfl)⟩,
    is_amount := ⟨f_is_amount, _, fun_mk (st := s_is_amount) l_is_amount c_is_amount k_is_amount, PySem.W.mg_of X G a_is_amount, ((fun_mk (st := s_is_amount) l_is_amount c_is_amount k_is_amount).binds (ps := ["thing"]) fun _ _ _ _ _ _ us hl => match us, hl with | [_], _ => rfl)⟩,
    is_number := ⟨f_is_number, _, fun_mk (st := s_is_number) l_is_number c_is_number k_is_number, PySem.W.mg_of X G a_is_number, ((fun_mk (st := s_is_number) l_is_number c_is_number k_is_number).binds (ps := ["thing"]) fun _ _ _ _ _ _ us hl => match us, hl with | [_], _ => rfl)⟩,
    is_deed := ⟨f_is_deed, _, fun_mk (st := s_is_deed) l_is_deed c_is_deed k_is_deed, PySem.W.mg_of X G a_is_deed, ((fun_mk (st := s_is_deed) l_is_deed c_is_deed k_is_deed).binds (ps := ["thing"]) fun _ _ _ _ _ _ us hl => match us, hl with | [_], _ => rfl)⟩,
    OldLine_init := ⟨f_OldLine_init, _, fun_mk (st := s_OldLine_init) l_OldLine_init c_OldLine_init k_OldLine_init, ⟨a_OldLine_init, i_OldLine_init, k_OldLine_init⟩, ((fun_mk (st := s_OldLine_init) l_OldLine_init c_OldLine_init k_OldLine_init).binds (ps := ["self", "number", "label", "start"]) fun _ _ _ _ _ _ us hl => match us, hl with | [_, _, _, _], _ => rfl)⟩,
    OldLine_row := ⟨f_OldLine_row, _, fun_mk (st := s_OldLine_row) l_OldLine_row c_OldLine_row k_OldLine_row, ⟨a_OldLine_row, i_OldLine_row, k_OldLine_row⟩, ((fun_mk (st := s_OldLine_row) l_OldLine_row c_OldLine_row k_OldLine_row).binds (ps := ["self"]) fun _ _ _ _ _ _ us hl => match us, hl with | [_], _ => rfl)⟩,
    NewLine_init := ⟨f_NewLine_init, _, fun_mk (st := s_NewLine_init) l_NewLine_init c_NewLine_init k_NewLine_init, ⟨a_NewLine_init, i_NewLine_init, k_NewLine_init⟩, ((fun_mk (st := s_NewLine_init) l_NewLine_init c_NewLine_init k_NewLine_init).binds (ps := ["self", "number", "label", "start", "source"]) fun _ _ _ _ _ _ us hl => match us, hl with | [_, _, _, _, _], _ => rfl)⟩,
    NewLine_row := ⟨f_NewLine_row, _, fun_mk (st := s_NewLine_row) l_NewLine_row c_NewLine_row k_NewLine_row, ⟨a_NewLine_row, i_NewLine_row, k_NewLine_row⟩, ((fun_mk (st := s_NewLine_row) l_NewLine_row c_NewLine_row k_NewLine_row).binds (ps := ["self"]) fun _ _ _ _ _ _ us hl => match us, hl with | [_], _ => rfl)⟩,
    Ledgers_init := ⟨f_Ledgers_init, _, fun_mk (st := s_Ledgers_init) l_Ledgers_init c_Ledgers_init k_Ledgers_init, ⟨a_Ledgers_init, i_Ledgers_init, k_Ledgers_init⟩, ((fun_mk (st := s_Ledgers_init) l_Ledgers_init c_Ledgers_init k_Ledgers_init).binds (ps := ["self"]) fun _ _ _ _ _ _ us hl => match us, hl with | [_], _ => rfl)⟩,
    Ledgers_old_line := ⟨f_Ledgers_old_line, _, fun_mk (st := s_Ledgers_old_line) l_Ledgers_old_line c_Ledgers_old_line k_Ledgers_old_line, ⟨a_Ledgers_old_line, i_Ledgers_old_line, k_Ledgers_old_line⟩, ((fun_mk (st := s_Ledgers_old_line) l_Ledgers_old_line c_Ledgers_old_line k_Ledgers_old_line).binds (ps := ["self", "number"]) fun _ _ _ _ _ _ us hl => match us, hl with | [_, _], _ => rfl)⟩,
    Ledgers_new_line := ⟨f_Ledgers_new_line, _, fun_mk (st := s_Ledgers_new_line) l_Ledgers_new_line c_Ledgers_new_line k_Ledgers_new_line, ⟨a_Ledgers_new_line, i_Ledgers_new_line, k_Ledgers_new_line⟩, ((fun_mk (st := s_Ledgers_new_line) l_Ledgers_new_line c_Ledgers_new_line k_Ledgers_new_line).binds (ps := ["self", "number"]) fun _ _ _ _ _ _ us hl => match us, hl with | [_, _], _ => rfl)⟩,
    Ledgers_rows := ⟨f_Ledgers_rows, _, fun_mk (st := s_Ledgers_rows) l_Ledgers_rows c_Ledgers_rows k_Ledgers_rows, ⟨a_Ledgers_rows, i_Ledgers_rows, k_Ledgers_rows⟩, ((fun_mk (st := s_Ledgers_rows) l_Ledgers_rows c_Ledgers_rows k_Ledgers_rows).binds (ps := ["self"]) fun _ _ _ _ _ _ us hl => match us, hl with | [_], _ => rfl)⟩,
    Ledgers_check := ⟨f_Ledgers_check, _, fun_mk (st := s_Ledgers_check) l_Ledgers_check c_Ledgers_check k_Ledgers_check, ⟨a_Ledgers_check, i_Ledgers_check, k_Ledgers_check⟩, ((fun_mk (st := s_Ledgers_check) l_Ledgers_check c_Ledgers_check k_Ledgers_check).binds (ps := ["self", "deed", "index"]) fun _ _ _ _ _ _ us hl => match us, hl with | [_, _, _], _ => rfl)⟩,
    Ledgers_play_deed := ⟨f_Ledgers_play_deed, _, fun_mk (st := s_Ledgers_play_deed) l_Ledgers_play_deed c_Ledgers_play_deed k_Ledgers_play_deed, ⟨a_Ledgers_play_deed, i_Ledgers_play_deed, k_Ledgers_play_deed⟩, ((fun_mk (st := s_Ledgers_play_deed) l_Ledgers_play_deed c_Ledgers_play_deed k_Ledgers_play_deed).binds (ps := ["self", "steps", "deed"]) fun _ _ _ _ _ _ us hl => match us, hl with | [_, _, _], _ => rfl)⟩,
    Ledgers_set_field := ⟨f_Ledgers_set_field, _, fun_mk (st := s_Ledgers_set_field) l_Ledgers_set_field c_Ledgers_set_field k_Ledgers_set_field, ⟨a_Ledgers_set_field, i_Ledgers_set_field, k_Ledgers_set_field⟩, ((fun_mk (st := s_Ledgers_set_field) l_Ledgers_set_field c_Ledgers_set_field k_Ledgers_set_field).binds (ps := ["self", "line", "deed"]) fun _ _ _ _ _ _ us hl => match us, hl with | [_, _, _], _ => rfl)⟩,
    Ledgers_write_field := ⟨f_Ledgers_write_field, _, fun_mk (st := s_Ledgers_write_field) l_Ledgers_write_field c_Ledgers_write_field k_Ledgers_write_field, ⟨a_Ledgers_write_field, i_Ledgers_write_field, k_Ledgers_write_field⟩, ((fun_mk (st := s_Ledgers_write_field) l_Ledgers_write_field c_Ledgers_write_field k_Ledgers_write_field).binds (ps := ["self", "line", "word", "value"]) fun _ _ _ _ _ _ us hl => match us, hl with | [_, _, _, _], _ => rfl)⟩,
    Ledgers_put_line := ⟨f_Ledgers_put_line, _, fun_mk (st := s_Ledgers_put_line) l_Ledgers_put_line c_Ledgers_put_line k_Ledgers_put_line, ⟨a_Ledgers_put_line, i_Ledgers_put_line, k_Ledgers_put_line⟩, ((fun_mk (st := s_Ledgers_put_line) l_Ledgers_put_line c_Ledgers_put_line k_Ledgers_put_line).binds (ps := ["self", "label", "start", "source"]) fun _ _ _ _ _ _ us hl => match us, hl with | [_, _, _, _], _ => rfl)⟩,
    Ledgers_run := ⟨f_Ledgers_run, _, fun_mk (st := s_Ledgers_run) l_Ledgers_run c_Ledgers_run k_Ledgers_run, ⟨a_Ledgers_run, i_Ledgers_run, k_Ledgers_run⟩, ((fun_mk (st := s_Ledgers_run) l_Ledgers_run c_Ledgers_run k_Ledgers_run).binds (ps := ["self", "steps"]) fun _ _ _ _ _ _ us hl => match us, hl with | [_, _], _ => rfl)⟩,
    Ledgers_wrongs := ⟨f_Ledgers_wrongs, _, fun_mk (st := s_Ledgers_wrongs) l_Ledgers_wrongs c_Ledgers_wrongs k_Ledgers_wrongs, ⟨a_Ledgers_wrongs, i_Ledgers_wrongs, k_Ledgers_wrongs⟩, ((fun_mk (st := s_Ledgers_wrongs) l_Ledgers_wrongs c_Ledgers_wrongs k_Ledgers_wrongs).binds (ps := ["self", "index"]) fun _ _ _ _ _ _ us hl => match us, hl with | [_, _], _ => rfl)⟩,
    OldLine_closing := ⟨f_OldLine_closing, _, fun_mk (st := s_OldLine_closing) l_OldLine_closing c_OldLine_closing k_OldLine_closing, ⟨a_OldLine_closing, i_OldLine_closing, k_OldLine_closing⟩, ((fun_mk (st := s_OldLine_closing) l_OldLine_closing c_OldLine_closing k_OldLine_closing).binds (ps := ["self"]) fun _ _ _ _ _ _ us hl => match us, hl with | [_], _ => rfl)⟩,
    NewLine_is_own := ⟨f_NewLine_is_own, _, fun_mk (st := s_NewLine_is_own) l_NewLine_is_own c_NewLine_is_own k_NewLine_is_own, ⟨a_NewLine_is_own, i_NewLine_is_own, k_NewLine_is_own⟩, ((fun_mk (st := s_NewLine_is_own) l_NewLine_is_own c_NewLine_is_own k_NewLine_is_own).binds (ps := ["self", "field"]) fun _ _ _ _ _ _ us hl => match us, hl with | [_, _], _ => rfl)⟩,
    Ledgers_made_lines := ⟨f_Ledgers_made_lines, _, fun_mk (st := s_Ledgers_made_lines) l_Ledgers_made_lines c_Ledgers_made_lines k_Ledgers_made_lines, ⟨a_Ledgers_made_lines, i_Ledgers_made_lines, k_Ledgers_made_lines⟩, ((fun_mk (st := s_Ledgers_made_lines) l_Ledgers_made_lines c_Ledgers_made_lines k_Ledgers_made_lines).binds (ps := ["self"]) fun _ _ _ _ _ _ us hl => match us, hl with | [_], _ => rfl)⟩,
    Ledgers_source_of := ⟨f_Ledgers_source_of, _, fun_mk (st := s_Ledgers_source_of) l_Ledgers_source_of c_Ledgers_source_of k_Ledgers_source_of, ⟨a_Ledgers_source_of, i_Ledgers_source_of, k_Ledgers_source_of⟩, ((fun_mk (st := s_Ledgers_source_of) l_Ledgers_source_of c_Ledgers_source_of k_Ledgers_source_of).binds (ps := ["self", "line"]) fun _ _ _ _ _ _ us hl => match us, hl with | [_, _], _ => rfl)⟩,
    Ledgers_is_in := ⟨f_Ledgers_is_in, _, fun_mk (st := s_Ledgers_is_in) l_Ledgers_is_in c_Ledgers_is_in k_Ledgers_is_in, ⟨a_Ledgers_is_in, i_Ledgers_is_in, k_Ledgers_is_in⟩, ((fun_mk (st := s_Ledgers_is_in) l_Ledgers_is_in c_Ledgers_is_in k_Ledgers_is_in).binds (ps := ["self", "line", "field", "scope"]) fun _ _ _ _ _ _ us hl => match us, hl with | [_, _, _, _], _ => rfl)⟩,
    Ledgers_make := ⟨f_Ledgers_make, _, fun_mk (st := s_Ledgers_make) l_Ledgers_make c_Ledgers_make k_Ledgers_make, ⟨a_Ledgers_make, i_Ledgers_make, k_Ledgers_make⟩, ((fun_mk (st := s_Ledgers_make) l_Ledgers_make c_Ledgers_make k_Ledgers_make).binds (ps := ["self", "scope"]) fun _ _ _ _ _ _ us hl => match us, hl with | [_, _], _ => rfl)⟩,
    Ledgers_drop := ⟨f_Ledgers_drop, _, fun_mk (st := s_Ledgers_drop) l_Ledgers_drop c_Ledgers_drop k_Ledgers_drop, ⟨a_Ledgers_drop, i_Ledgers_drop, k_Ledgers_drop⟩, ((fun_mk (st := s_Ledgers_drop) l_Ledgers_drop c_Ledgers_drop k_Ledgers_drop).binds (ps := ["self"]) fun _ _ _ _ _ _ us hl => match us, hl with | [_], _ => rfl)⟩,
    Ledgers_follow := ⟨f_Ledgers_follow, _, fun_mk (st := s_Ledgers_follow) l_Ledgers_follow c_Ledgers_follow k_Ledgers_follow, ⟨a_Ledgers_follow, i_Ledgers_follow, k_Ledgers_follow⟩, ((fun_mk (st := s_Ledgers_follow) l_Ledgers_follow c_Ledgers_follow k_Ledgers_follow).binds (ps := ["self", "field", "scope"]) fun _ _ _ _ _ _ us hl => match us, hl with | [_, _, _], _ => rfl)⟩,
    Ledgers_old_wrongs := ⟨f_Ledgers_old_wrongs, _, fun_mk (st := s_Ledgers_old_wrongs) l_Ledgers_old_wrongs c_Ledgers_old_wrongs k_Ledgers_old_wrongs, ⟨a_Ledgers_old_wrongs, i_Ledgers_old_wrongs, k_Ledgers_old_wrongs⟩, ((fun_mk (st := s_Ledgers_old_wrongs) l_Ledgers_old_wrongs c_Ledgers_old_wrongs k_Ledgers_old_wrongs).binds (ps := ["self", "line", "there"]) fun _ _ _ _ _ _ us hl => match us, hl with | [_, _, _], _ => rfl)⟩,
    Ledgers_typed_wrongs := ⟨f_Ledgers_typed_wrongs, _, fun_mk (st := s_Ledgers_typed_wrongs) l_Ledgers_typed_wrongs c_Ledgers_typed_wrongs k_Ledgers_typed_wrongs, ⟨a_Ledgers_typed_wrongs, i_Ledgers_typed_wrongs, k_Ledgers_typed_wrongs⟩, ((fun_mk (st := s_Ledgers_typed_wrongs) l_Ledgers_typed_wrongs c_Ledgers_typed_wrongs k_Ledgers_typed_wrongs).binds (ps := ["self", "line", "numbers"]) fun _ _ _ _ _ _ us hl => match us, hl with | [_, _, _], _ => rfl)⟩,
    OldLine_twin := ⟨f_OldLine_twin, _, fun_mk (st := s_OldLine_twin) l_OldLine_twin c_OldLine_twin k_OldLine_twin, ⟨a_OldLine_twin, i_OldLine_twin, k_OldLine_twin⟩, ((fun_mk (st := s_OldLine_twin) l_OldLine_twin c_OldLine_twin k_OldLine_twin).binds (ps := ["self"]) fun _ _ _ _ _ _ us hl => match us, hl with | [_], _ => rfl)⟩,
    NewLine_twin := ⟨f_NewLine_twin, _, fun_mk (st := s_NewLine_twin) l_NewLine_twin c_NewLine_twin k_NewLine_twin, ⟨a_NewLine_twin, i_NewLine_twin, k_NewLine_twin⟩, ((fun_mk (st := s_NewLine_twin) l_NewLine_twin c_NewLine_twin k_NewLine_twin).binds (ps := ["self"]) fun _ _ _ _ _ _ us hl => match us, hl with | [_], _ => rfl)⟩,
    Ledgers_twin := ⟨f_Ledgers_twin, _, fun_mk (st := s_Ledgers_twin) l_Ledgers_twin c_Ledgers_twin k_Ledgers_twin, ⟨a_Ledgers_twin, i_Ledgers_twin, k_Ledgers_twin⟩, ((fun_mk (st := s_Ledgers_twin) l_Ledgers_twin c_Ledgers_twin k_Ledgers_twin).binds (ps := ["self"]) fun _ _ _ _ _ _ us hl => match us, hl with | [_], _ => rfl)⟩,
    is_step := ⟨f_is_step, _, fun_mk (st := s_is_step) l_is_step c_is_step k_is_step, PySem.W.mg_of X G a_is_step, ((fun_mk (st := s_is_step) l_is_step c_is_step k_is_step).binds (ps := ["thing"]) fun _ _ _ _ _ _ us hl => match us, hl with | [_], _ => rfl)⟩,
    Script_init := ⟨f_Script_init, _, fun_mk (st := s_Script_init) l_Script_init c_Script_init k_Script_init, ⟨a_Script_init, i_Script_init, k_Script_init⟩, ((fun_mk (st := s_Script_init) l_Script_init c_Script_init k_Script_init).binds (ps := ["self", "steps"]) fun _ _ _ _ _ _ us hl => match us, hl with | [_, _], _ => rfl)⟩,
    Script_steps := ⟨f_Script_steps, _, fun_mk (st := s_Script_steps) l_Script_steps c_Script_steps k_Script_steps, ⟨a_Script_steps, i_Script_steps, k_Script_steps⟩, ((fun_mk (st := s_Script_steps) l_Script_steps c_Script_steps k_Script_steps).binds (ps := ["self"]) fun _ _ _ _ _ _ us hl => match us, hl with | [_], _ => rfl)⟩,
    check_all := ⟨f_check_all, _, fun_mk (st := s_check_all) l_check_all c_check_all k_check_all, PySem.W.mg_of X G a_check_all, ((fun_mk (st := s_check_all) l_check_all c_check_all k_check_all).binds (ps := ["deeds", "first"]) fun _ _ _ _ _ _ us hl => match us, hl with | [_, _], _ => rfl)⟩,
    Years_init := ⟨f_Years_init, _, fun_mk (st := s_Years_init) l_Years_init c_Years_init k_Years_init, ⟨a_Years_init, i_Years_init, k_Years_init⟩, ((fun_mk (st := s_Years_init) l_Years_init c_Years_init k_Years_init).binds (ps := ["self", "script"]) fun _ _ _ _ _ _ us hl => match us, hl with | [_, _], _ => rfl)⟩,
    Years_len := ⟨f_Years_len, _, fun_mk (st := s_Years_len) l_Years_len c_Years_len k_Years_len, ⟨a_Years_len, i_Years_len, k_Years_len⟩, ((fun_mk (st := s_Years_len) l_Years_len c_Years_len k_Years_len).binds (ps := ["self"]) fun _ _ _ _ _ _ us hl => match us, hl with | [_], _ => rfl)⟩,
    Years_runs := ⟨f_Years_runs, pp_Years_runs, _, fun_mk (st := s_Years_runs) l_Years_runs c_Years_runs k_Years_runs, ⟨a_Years_runs, pg_Years_runs, pt_Years_runs, ⟨_, pr_Years_runs⟩⟩, ((fun_mk (st := s_Years_runs) l_Years_runs c_Years_runs k_Years_runs).binds (ps := ["self"]) fun _ _ _ _ _ _ us hl => match us, hl with | [_], _ => rfl)⟩,
    Years_script := ⟨f_Years_script, pp_Years_script, _, fun_mk (st := s_Years_script) l_Years_script c_Years_script k_Years_script, ⟨a_Years_script, pg_Years_script, pt_Years_script, ⟨_, pr_Years_script⟩⟩, ((fun_mk (st := s_Years_script) l_Years_script c_Years_script k_Years_script).binds (ps := ["self"]) fun _ _ _ _ _ _ us hl => match us, hl with | [_], _ => rfl)⟩,
    Years_remember := ⟨f_Years_remember, _, fun_mk (st := s_Years_remember) l_Years_remember c_Years_remember k_Years_remember, ⟨a_Years_remember, i_Years_remember, k_Years_remember⟩, ((fun_mk (st := s_Years_remember) l_Years_remember c_Years_remember k_Years_remember).binds (ps := ["self"]) fun _ _ _ _ _ _ us hl => match us, hl with | [_], _ => rfl)⟩,
    Years_play_all := ⟨f_Years_play_all, _, fun_mk (st := s_Years_play_all) l_Years_play_all c_Years_play_all k_Years_play_all, ⟨a_Years_play_all, i_Years_play_all, k_Years_play_all⟩, ((fun_mk (st := s_Years_play_all) l_Years_play_all c_Years_play_all k_Years_play_all).binds (ps := ["self", "deeds"]) fun _ _ _ _ _ _ us hl => match us, hl with | [_, _], _ => rfl)⟩,
    Years_do := ⟨f_Years_do, _, fun_mk (st := s_Years_do) l_Years_do c_Years_do k_Years_do, ⟨a_Years_do, i_Years_do, k_Years_do⟩, ((fun_mk (st := s_Years_do) l_Years_do c_Years_do k_Years_do).binds (ps := ["self", "deed"]) fun _ _ _ _ _ _ us hl => match us, hl with | [_, _], _ => rfl)⟩,
    Years_do_all := ⟨f_Years_do_all, _, fun_mk (st := s_Years_do_all) l_Years_do_all c_Years_do_all k_Years_do_all, ⟨a_Years_do_all, i_Years_do_all, k_Years_do_all⟩, ((fun_mk (st := s_Years_do_all) l_Years_do_all c_Years_do_all k_Years_do_all).binds (ps := ["self", "deeds"]) fun _ _ _ _ _ _ us hl => match us, hl with | [_, _], _ => rfl)⟩,
    Years_change := ⟨f_Years_change, _, fun_mk (st := s_Years_change) l_Years_change c_Years_change k_Years_change, ⟨a_Years_change, i_Years_change, k_Years_change⟩, ((fun_mk (st := s_Years_change) l_Years_change c_Years_change k_Years_change).binds (ps := ["self", "script"]) fun _ _ _ _ _ _ us hl => match us, hl with | [_, _], _ => rfl)⟩,
    Years_undo := ⟨f_Years_undo, _, fun_mk (st := s_Years_undo) l_Years_undo c_Years_undo k_Years_undo, ⟨a_Years_undo, i_Years_undo, k_Years_undo⟩, ((fun_mk (st := s_Years_undo) l_Years_undo c_Years_undo k_Years_undo).binds (ps := ["self"]) fun _ _ _ _ _ _ us hl => match us, hl with | [_], _ => rfl)⟩,
    Years_old := ⟨f_Years_old, _, fun_mk (st := s_Years_old) l_Years_old c_Years_old k_Years_old, ⟨a_Years_old, i_Years_old, k_Years_old⟩, ((fun_mk (st := s_Years_old) l_Years_old c_Years_old k_Years_old).binds (ps := ["self"]) fun _ _ _ _ _ _ us hl => match us, hl with | [_], _ => rfl)⟩,
    Years_new := ⟨f_Years_new, _, fun_mk (st := s_Years_new) l_Years_new c_Years_new k_Years_new, ⟨a_Years_new, i_Years_new, k_Years_new⟩, ((fun_mk (st := s_Years_new) l_Years_new c_Years_new k_Years_new).binds (ps := ["self"]) fun _ _ _ _ _ _ us hl => match us, hl with | [_], _ => rfl)⟩,
    Years_faults := ⟨f_Years_faults, _, fun_mk (st := s_Years_faults) l_Years_faults c_Years_faults k_Years_faults, ⟨a_Years_faults, i_Years_faults, k_Years_faults⟩, ((fun_mk (st := s_Years_faults) l_Years_faults c_Years_faults k_Years_faults).binds (ps := ["self"]) fun _ _ _ _ _ _ us hl => match us, hl with | [_], _ => rfl)⟩,
    Years_made_of := ⟨f_Years_made_of, _, fun_mk (st := s_Years_made_of) l_Years_made_of c_Years_made_of k_Years_made_of, ⟨a_Years_made_of, i_Years_made_of, k_Years_made_of⟩, ((fun_mk (st := s_Years_made_of) l_Years_made_of c_Years_made_of k_Years_made_of).binds (ps := ["self", "number"]) fun _ _ _ _ _ _ us hl => match us, hl with | [_, _], _ => rfl)⟩,
    jar := ⟨f_jar, _, fun_mk (st := s_jar) l_jar c_jar k_jar, PySem.W.mg_of X G a_jar, ((fun_mk (st := s_jar) l_jar c_jar k_jar).binds (ps := ["script", "k"]) fun _ _ _ _ _ _ us hl => match us, hl with | [_, _], _ => rfl)⟩,
    draw := ⟨f_draw, _, fun_mk (st := s_draw) l_draw c_draw k_draw, PySem.W.mg_of X G a_draw, ((fun_mk (st := s_draw) l_draw c_draw k_draw).binds (ps := ["jar", "many"]) fun _ _ _ _ _ _ us hl => match us, hl with | [_, _], _ => rfl)⟩,
    any_step := ⟨f_any_step, _, fun_mk (st := s_any_step) l_any_step c_any_step k_any_step, PySem.W.mg_of X G a_any_step, ((fun_mk (st := s_any_step) l_any_step c_any_step k_any_step).binds (ps := ["jar"]) fun _ _ _ _ _ _ us hl => match us, hl with | [_], _ => rfl)⟩,
    plan := ⟨f_plan, _, fun_mk (st := s_plan) l_plan c_plan k_plan, PySem.W.mg_of X G a_plan, ((fun_mk (st := s_plan) l_plan c_plan k_plan).binds (ps := ["jar"]) fun _ _ _ _ _ _ us hl => match us, hl with | [_], _ => rfl)⟩,
    act := ⟨f_act, _, fun_mk (st := s_act) l_act c_act k_act, PySem.W.mg_of X G a_act, ((fun_mk (st := s_act) l_act c_act k_act).binds (ps := ["jar"]) fun _ _ _ _ _ _ us hl => match us, hl with | [_], _ => rfl)⟩,
    stand := ⟨f_stand, _, fun_mk (st := s_stand) l_stand c_stand k_stand, PySem.W.mg_of X G a_stand, ((fun_mk (st := s_stand) l_stand c_stand k_stand).binds (ps := ["years"]) fun _ _ _ _ _ _ us hl => match us, hl with | [_], _ => rfl)⟩,
    called := ⟨f_called, _, fun_mk (st := s_called) l_called c_called k_called, PySem.W.mg_of X G a_called, ((fun_mk (st := s_called) l_called c_called k_called).binds (ps := ["jar", "one", "two", "works"]) fun _ _ _ _ _ _ us hl => match us, hl with | [_, _, _, _], _ => rfl)⟩,
    right := ⟨f_right, _, fun_mk (st := s_right) l_right c_right k_right, PySem.W.mg_of X G a_right, ((fun_mk (st := s_right) l_right c_right k_right).binds (ps := ["jar"]) fun _ _ _ _ _ _ us hl => match us, hl with | [_], _ => rfl)⟩,
    law := ⟨f_law, _, fun_mk (st := s_law) l_law c_law k_law, PySem.W.mg_of X G a_law, ((fun_mk (st := s_law) l_law c_law k_law).binds (ps := ["script"]) fun _ _ _ _ _ _ us hl => match us, hl with | [_], _ => rfl)⟩,
    cl_Script := ⟨pg_Script, hd_Script, po_Script, sa_Script⟩,
    ic_Script := ⟨⟨pg_Script, hd_Script, po_Script, sa_Script⟩, ha_Script, cn, ctk, hm_Script⟩,
    mk_Script := ⟨mk_Script, a_Script_init, i_Script_init, kc_Script⟩,
    na_Script_kept_steps := n_Script_kept_steps,
    cl_OldLine := ⟨pg_OldLine, hd_OldLine, po_OldLine, sa_OldLine⟩,
    ic_OldLine := ⟨⟨pg_OldLine, hd_OldLine, po_OldLine, sa_OldLine⟩, ha_OldLine, cn, ctk, hm_OldLine⟩,
    mk_OldLine := ⟨mk_OldLine, a_OldLine_init, i_OldLine_init, kc_OldLine⟩,
    na_OldLine_number := n_OldLine_number,
    na_OldLine_label := n_OldLine_label,
    na_OldLine_start := n_OldLine_start,
    na_OldLine_moves := n_OldLine_moves,
    na_OldLine_tie := n_OldLine_tie,
    na_OldLine_standing := n_OldLine_standing,
    cl_NewLine := ⟨pg_NewLine, hd_NewLine, po_NewLine, sa_NewLine⟩,
    ic_NewLine := ⟨⟨pg_NewLine, hd_NewLine, po_NewLine, sa_NewLine⟩, ha_NewLine, cn, ctk, hm_NewLine⟩,
    mk_NewLine := ⟨mk_NewLine, a_NewLine_init, i_NewLine_init, kc_NewLine⟩,
    na_NewLine_number := n_NewLine_number,
    na_NewLine_label := n_NewLine_label,
    na_NewLine_start := n_NewLine_start,
    na_NewLine_source := n_NewLine_source,
    na_NewLine_moves := n_NewLine_moves,
    na_NewLine_tie := n_NewLine_tie,
    na_NewLine_typed := n_NewLine_typed,
    cl_Ledgers := ⟨pg_Ledgers, hd_Ledgers, po_Ledgers, sa_Ledgers⟩,
    ic_Ledgers := ⟨⟨pg_Ledgers, hd_Ledgers, po_Ledgers, sa_Ledgers⟩, ha_Ledgers, cn, ctk, hm_Ledgers⟩,
    mk_Ledgers := ⟨mk_Ledgers, a_Ledgers_init, i_Ledgers_init, kc_Ledgers⟩,
    na_Ledgers_elder := n_Ledgers_elder,
    na_Ledgers_later := n_Ledgers_later,
    na_Ledgers_ever := n_Ledgers_ever,
    na_Ledgers_fresh := n_Ledgers_fresh,
    na_Ledgers_ahead := n_Ledgers_ahead,
    cl_Years := ⟨pg_Years, hd_Years, po_Years, sa_Years⟩,
    ic_Years := ⟨⟨pg_Years, hd_Years, po_Years, sa_Years⟩, ha_Years, cn, ctk, hm_Years⟩,
    mk_Years := ⟨mk_Years, a_Years_init, i_Years_init, kc_Years⟩,
    na_Years_plan := n_Years_plan,
    na_Years_ledgers := n_Years_ledgers,
    na_Years_story := n_Years_story,
    na_Years_wrong := n_Years_wrong,
    na_Years_past := n_Years_past,
    ne_Script_OldLine := ne_Script_OldLine,
    ne_Script_NewLine := ne_Script_NewLine,
    ne_Script_Ledgers := ne_Script_Ledgers,
    ne_Script_Years := ne_Script_Years,
    ne_OldLine_NewLine := ne_OldLine_NewLine,
    ne_OldLine_Ledgers := ne_OldLine_Ledgers,
    ne_OldLine_Years := ne_OldLine_Years,
    ne_NewLine_Ledgers := ne_NewLine_Ledgers,
    ne_NewLine_Years := ne_NewLine_Years,
    ne_Ledgers_Years := ne_Ledgers_Years,
    a_STEPS := A_STEPS, g_STEPS := PySem.W.mg_of X G v_STEPS, d_STEPS := fun H => .tup (xs := [.ref A_STEPS_2, .ref A_STEPS_3, .ref A_STEPS_4, .ref A_STEPS_5, .ref A_STEPS_6, .ref A_STEPS_7, .ref A_STEPS_8, .ref A_STEPS_9, .ref A_STEPS_10, .ref A_STEPS_11, .ref A_STEPS_12, .ref A_STEPS_13]) (.inr ⟨_, _, _, w_STEPS_0, rfl, rfl, (by show 12 ≤ sizeLine; decide), (.cons rfl (.cons rfl (.cons rfl (.cons rfl (.cons rfl (.cons rfl (.cons rfl (.cons rfl (.cons rfl (.cons rfl (.cons rfl (.cons rfl .nil))))))))))))⟩) (.cons (.tup (xs := [(.str "make"), (.str "all")]) (.inr ⟨_, _, _, w_STEPS_45, rfl, rfl, (by show 2 ≤ sizeLine; decide), (.cons ⟨_, rfl⟩ (.cons ⟨_, rfl⟩ .nil))⟩) (.cons (.str _) (.cons (.str _) .nil))) (.cons (.tup (xs := [(.str "make"), (.str "standing")]) (.inr ⟨_, _, _, w_STEPS_42, rfl, rfl, (by show 2 ≤ sizeLine; decide), (.cons ⟨_, rfl⟩ (.cons ⟨_, rfl⟩ .nil))⟩) (.cons (.str _) (.cons (.str _) .nil))) (.cons (.tup (xs := [(.str "start"), (.str "new")]) (.inr ⟨_, _, _, w_STEPS_39, rfl, rfl, (by show 2 ≤ sizeLine; decide), (.cons ⟨_, rfl⟩ (.cons ⟨_, rfl⟩ .nil))⟩) (.cons (.str _) (.cons (.str _) .nil))) (.cons (.tup (xs := [(.str "start"), (.str "all")]) (.inr ⟨_, _, _, w_STEPS_36, rfl, rfl, (by show 2 ≤ sizeLine; decide), (.cons ⟨_, rfl⟩ (.cons ⟨_, rfl⟩ .nil))⟩) (.cons (.str _) (.cons (.str _) .nil))) (.cons (.tup (xs := [(.str "start"), (.str "free")]) (.inr ⟨_, _, _, w_STEPS_33, rfl, rfl, (by show 2 ≤ sizeLine; decide), (.cons ⟨_, rfl⟩ (.cons ⟨_, rfl⟩ .nil))⟩) (.cons (.str _) (.cons (.str _) .nil))) (.cons (.tup (xs := [(.str "label"), (.str "new")]) (.inr ⟨_, _, _, w_STEPS_30, rfl, rfl, (by show 2 ≤ sizeLine; decide), (.cons ⟨_, rfl⟩ (.cons ⟨_, rfl⟩ .nil))⟩) (.cons (.str _) (.cons (.str _) .nil))) (.cons (.tup (xs := [(.str "label"), (.str "all")]) (.inr ⟨_, _, _, w_STEPS_27, rfl, rfl, (by show 2 ≤ sizeLine; decide), (.cons ⟨_, rfl⟩ (.cons ⟨_, rfl⟩ .nil))⟩) (.cons (.str _) (.cons (.str _) .nil))) (.cons (.tup (xs := [(.str "label"), (.str "free")]) (.inr ⟨_, _, _, w_STEPS_24, rfl, rfl, (by show 2 ≤ sizeLine; decide), (.cons ⟨_, rfl⟩ (.cons ⟨_, rfl⟩ .nil))⟩) (.cons (.str _) (.cons (.str _) .nil))) (.cons (.tup (xs := [(.str "tie"), (.str "new")]) (.inr ⟨_, _, _, w_STEPS_21, rfl, rfl, (by show 2 ≤ sizeLine; decide), (.cons ⟨_, rfl⟩ (.cons ⟨_, rfl⟩ .nil))⟩) (.cons (.str _) (.cons (.str _) .nil))) (.cons (.tup (xs := [(.str "tie"), (.str "all")]) (.inr ⟨_, _, _, w_STEPS_18, rfl, rfl, (by show 2 ≤ sizeLine; decide), (.cons ⟨_, rfl⟩ (.cons ⟨_, rfl⟩ .nil))⟩) (.cons (.str _) (.cons (.str _) .nil))) (.cons (.tup (xs := [(.str "tie"), (.str "free")]) (.inr ⟨_, _, _, w_STEPS_15, rfl, rfl, (by show 2 ≤ sizeLine; decide), (.cons ⟨_, rfl⟩ (.cons ⟨_, rfl⟩ .nil))⟩) (.cons (.str _) (.cons (.str _) .nil))) (.cons (.tup (xs := [(.str "drop")]) (.inr ⟨_, _, _, w_STEPS_13, rfl, rfl, (by show 1 ≤ sizeLine; decide), (.cons ⟨_, rfl⟩ .nil)⟩) (.cons (.str _) .nil)) .nil)))))))))))),
    t_MOST_STEPS := tk_MOST_STEPS, g_MOST_STEPS := PySem.W.mg_of X G v_MOST_STEPS,
    t_MOST_LABEL := tk_MOST_LABEL, g_MOST_LABEL := PySem.W.mg_of X G v_MOST_LABEL,
    t_MOST_AMOUNT := tk_MOST_AMOUNT, g_MOST_AMOUNT := PySem.W.mg_of X G v_MOST_AMOUNT,
    t_MOST_NUMBER := tk_MOST_NUMBER, g_MOST_NUMBER := PySem.W.mg_of X G v_MOST_NUMBER,
    b_len := PySem.W.mg_none_of X G z_len,
    b_isinstance := PySem.W.mg_none_of X G z_isinstance,
    b_int := PySem.W.mg_none_of X G z_int,
    b_bool := PySem.W.mg_none_of X G z_bool,
    b_str := PySem.W.mg_none_of X G z_str,
    b_tuple := PySem.W.mg_none_of X G z_tuple,
    b_list := PySem.W.mg_none_of X G z_list,
    b_all := PySem.W.mg_none_of X G z_all,
    b_max := PySem.W.mg_none_of X G z_max,
    b_min := PySem.W.mg_none_of X G z_min,
    b_abs := PySem.W.mg_none_of X G z_abs,
    b_range := PySem.W.mg_none_of X G z_range,
    b_enumerate := PySem.W.mg_none_of X G z_enumerate,
    b_dict := PySem.W.mg_none_of X G z_dict,
    kb_Years_do_1 := ⟨fun s us ws _ h1 h2 => match us, ws, h1, h2 with | [_], [_], _, _ => .of_eq rfl, fun r1 r2 => r1.append r2⟩,
    kb_Years_do_all_1 := ⟨fun s us ws _ h1 h2 => match us, ws, h1, h2 with | [_], [_], _, _ => .of_eq rfl, fun r1 r2 => r1.append r2⟩,
    kb_Years_made_of_1 := ⟨fun s us ws _ h1 h2 => match us, ws, h1, h2 with | [_], [_], _, _ => .of_eq rfl, fun r1 r2 => r1.append r2⟩ }, fun s v => .of_eq rfl⟩
theorem all_mk {l : PySem.W.OpenLaw} {w : World} {K : PySem.W.Frag} {mg : Str → Option Value} {fa : Addr} (hfa : mg "law" = some (.ref fa)) (h : ∃ T : Tx K mg, ∀ (s : Shared) (v : Value), BindsTo s T.law.fd ⟨[v], []⟩ [("script", v)]) :
    ∃ fd : FuncData, (∀ (s : Shared) (v : Value), BindsTo s fd ⟨[v], []⟩ [("script", v)]) ∧ ∀ base : Heap, K.In base → base.Ns mainGlobals mg → FnOk l.prog w K mg base CX0 16 fa fd ["script"] (spLaw K) := by
  obtain ⟨T, hb⟩ := h
  have e := hfa.symm.trans T.law.g
  cases e
  exact ⟨T.law.fd, hb, fun base _ _ => ok_law T⟩
theorem walk {l : PySem.W.OpenLaw} {q : Program} {loose : List Str} {XP : (Str → Option Value) → Heap → Prop} {YP : World → Heap → Prop} {d : DefRec} {K : Params → PySem.W.Frag} (hn : l.most = some 63) (hdf : d.params.defaults = [])
    (hY : ∀ (w : World) (h : Heap), YP w h → (K w.params).In h)
    (F : ∀ (w : World) (mg : Str → Option Value) (fa : Addr) (h : Heap), (K w.params).In h → h.Ns mainGlobals mg → mg d.name = some (.ref fa) →
      ∃ fd : FuncData, (∀ (s : Shared) (u : Value), BindsTo s fd ⟨[u], []⟩ [("script", u)]) ∧ ∀ base : Heap, (K w.params).In base → base.Ns mainGlobals mg → FnOk l.prog w (K w.params) mg base CX0 16 fa fd ["script"] (spLaw (K w.params))) :
    PySem.W.WalkO q loose XP YP l.row.toRowW d [] (fun f vs => PySem.call f vs) :=
  L2.walk_of (n := 63) (k := 16) (x := "script") (CX := fun _ => CX0) (sp := fun w => spLaw (K w.params)) hn (by decide) hdf ⟨rfl, by decide, by decide⟩ hY F (fun _ _ a ns hl _ hS => ⟨a, ns, rfl, hS, hl, fun _ => rfl⟩) fun _ _ _ _ _ z => z
end Y
open PySem PySem.W PyProof.Rows
set_option maxRecDepth 100000 in
set_option maxHeartbeats 0 in
theorem PySem.Challenge.cw_yearturned_k69_calls_by_name_holds : PySem.Challenge.rw_yearturned_k69_calls_by_name.Holds := by
  w_on; o_law; k_head; (case hw => w_witness2)
  k_fill
  refine Y.walk (l := PySem.Challenge.rw_yearturned_k69_calls_by_name) rfl rfl (fun w h Y => PySem.W.kIn_of Y) ?F
  case F =>
    intro w mg fa h KX G hmg
    refine Y.all_mk hmg ?_
    refine' Y.tx_of KX G ?cn ?ctk ?nC_Script ?nC_OldLine ?nC_NewLine ?nC_Ledgers ?nC_Years ?a_is_whole ?l_is_whole ?c_is_whole ?k_is_whole ?a_is_label ?l_is_label ?c_is_label ?k_is_label ?a_is_amount ?l_is_amount ?c_is_amount ?k_is_amount ?a_is_number ?l_is_number ?c_is_number ?k_is_number ?a_is_deed ?l_is_deed ?c_is_deed ?k_is_deed ?a_OldLine_init ?i_OldLine_init ?l_OldLine_init ?c_OldLine_init ?k_OldLine_init ?a_OldLine_row ?i_OldLine_row ?l_OldLine_row ?c_OldLine_row ?k_OldLine_row ?a_NewLine_init ?i_NewLine_init ?l_NewLine_init ?c_NewLine_init ?k_NewLine_init ?a_NewLine_row ?i_NewLine_row ?l_NewLine_row ?c_NewLine_row ?k_NewLine_row ?a_Ledgers_init ?i_Ledgers_init ?l_Ledgers_init ?c_Ledgers_init ?k_Ledgers_init ?a_Ledgers_old_line ?i_Ledgers_old_line ?l_Ledgers_old_line ?c_Ledgers_old_line ?k_Ledgers_old_line ?a_Ledgers_new_line ?i_Ledgers_new_line ?l_Ledgers_new_line ?c_Ledgers_new_line ?k_Ledgers_new_line ?a_Ledgers_rows ?i_Ledgers_rows ?l_Ledgers_rows ?c_Ledgers_rows ?k_Ledgers_rows ?a_Ledgers_check ?i_Ledgers_check ?l_Ledgers_check ?c_Ledgers_check ?k_Ledgers_check ?a_Ledgers_play_deed ?i_Ledgers_play_deed ?l_Ledgers_play_deed ?c_Ledgers_play_deed ?k_Ledgers_play_deed ?a_Ledgers_set_field ?i_Ledgers_set_field ?l_Ledgers_set_field ?c_Ledgers_set_field ?k_Ledgers_set_field ?a_Ledgers_write_field ?i_Ledgers_write_field ?l_Ledgers_write_field ?c_Ledgers_write_field ?k_Ledgers_write_field ?a_Ledgers_put_line ?i_Ledgers_put_line ?l_Ledgers_put_line ?c_Ledgers_put_line ?k_Ledgers_put_line ?a_Ledgers_run ?i_Ledgers_run ?l_Ledgers_run ?c_Ledgers_run ?k_Ledgers_run ?a_Ledgers_wrongs ?i_Ledgers_wrongs ?l_Ledgers_wrongs ?c_Ledgers_wrongs ?k_Ledgers_wrongs ?a_OldLine_closing ?i_OldLine_closing ?l_OldLine_closing ?c_OldLine_closing ?k_OldLine_closing ?a_NewLine_is_own ?i_NewLine_is_own ?l_NewLine_is_own ?c_NewLine_is_own ?k_NewLine_is_own ?a_Ledgers_made_lines ?i_Ledgers_made_lines ?l_Ledgers_made_lines ?c_Ledgers_made_lines ?k_Ledgers_made_lines ?a_Ledgers_source_of ?i_Ledgers_source_of ?l_Ledgers_source_of ?c_Ledgers_source_of ?k_Ledgers_source_of ?a_Ledgers_is_in ?i_Ledgers_is_in ?l_Ledgers_is_in ?c_Ledgers_is_in ?k_Ledgers_is_in ?a_Ledgers_make ?i_Ledgers_make ?l_Ledgers_make ?c_Ledgers_make ?k_Ledgers_make ?a_Ledgers_drop ?i_Ledgers_drop ?l_Ledgers_drop ?c_Ledgers_drop ?k_Ledgers_drop ?a_Ledgers_follow ?i_Ledgers_follow ?l_Ledgers_follow ?c_Ledgers_follow ?k_Ledgers_follow ?a_Ledgers_old_wrongs ?i_Ledgers_old_wrongs ?l_Ledgers_old_wrongs ?c_Ledgers_old_wrongs ?k_Ledgers_old_wrongs ?a_Ledgers_typed_wrongs ?i_Ledgers_typed_wrongs ?l_Ledgers_typed_wrongs ?c_Ledgers_typed_wrongs ?k_Ledgers_typed_wrongs ?a_OldLine_twin ?i_OldLine_twin ?l_OldLine_twin ?c_OldLine_twin ?k_OldLine_twin ?a_NewLine_twin ?i_NewLine_twin ?l_NewLine_twin ?c_NewLine_twin ?k_NewLine_twin ?a_Ledgers_twin ?i_Ledgers_twin ?l_Ledgers_twin ?c_Ledgers_twin ?k_Ledgers_twin ?a_is_step ?l_is_step ?c_is_step ?k_is_step ?a_Script_init ?i_Script_init ?l_Script_init ?c_Script_init ?k_Script_init ?a_Script_steps ?i_Script_steps ?l_Script_steps ?c_Script_steps ?k_Script_steps ?a_check_all ?l_check_all ?c_check_all ?k_check_all ?a_Years_init ?i_Years_init ?l_Years_init ?c_Years_init ?k_Years_init ?a_Years_len ?i_Years_len ?l_Years_len ?c_Years_len ?k_Years_len ?a_Years_runs ?pg_Years_runs ?pt_Years_runs ?pr_Years_runs ?l_Years_runs ?c_Years_runs ?k_Years_runs ?a_Years_script ?pg_Years_script ?pt_Years_script ?pr_Years_script ?l_Years_script ?c_Years_script ?k_Years_script ?a_Years_remember ?i_Years_remember ?l_Years_remember ?c_Years_remember ?k_Years_remember ?a_Years_play_all ?i_Years_play_all ?l_Years_play_all ?c_Years_play_all ?k_Years_play_all ?a_Years_do ?i_Years_do ?l_Years_do ?c_Years_do ?k_Years_do ?a_Years_do_all ?i_Years_do_all ?l_Years_do_all ?c_Years_do_all ?k_Years_do_all ?a_Years_change ?i_Years_change ?l_Years_change ?c_Years_change ?k_Years_change ?a_Years_undo ?i_Years_undo ?l_Years_undo ?c_Years_undo ?k_Years_undo ?a_Years_old ?i_Years_old ?l_Years_old ?c_Years_old ?k_Years_old ?a_Years_new ?i_Years_new ?l_Years_new ?c_Years_new ?k_Years_new ?a_Years_faults ?i_Years_faults ?l_Years_faults ?c_Years_faults ?k_Years_faults ?a_Years_made_of ?i_Years_made_of ?l_Years_made_of ?c_Years_made_of ?k_Years_made_of ?a_jar ?l_jar ?c_jar ?k_jar ?a_draw ?l_draw ?c_draw ?k_draw ?a_any_step ?l_any_step ?c_any_step ?k_any_step ?a_plan ?l_plan ?c_plan ?k_plan ?a_act ?l_act ?c_act ?k_act ?a_stand ?l_stand ?c_stand ?k_stand ?a_called ?l_called ?c_called ?k_called ?a_right ?l_right ?c_right ?k_right ?a_law ?l_law ?c_law ?k_law ?pg_Script ?hd_Script ?po_Script ?sa_Script ?mk_Script ?kc_Script ?ha_Script ?hm_Script ?n_Script_kept_steps ?pg_OldLine ?hd_OldLine ?po_OldLine ?sa_OldLine ?mk_OldLine ?kc_OldLine ?ha_OldLine ?hm_OldLine ?n_OldLine_number ?n_OldLine_label ?n_OldLine_start ?n_OldLine_moves ?n_OldLine_tie ?n_OldLine_standing ?pg_NewLine ?hd_NewLine ?po_NewLine ?sa_NewLine ?mk_NewLine ?kc_NewLine ?ha_NewLine ?hm_NewLine ?n_NewLine_number ?n_NewLine_label ?n_NewLine_start ?n_NewLine_source ?n_NewLine_moves ?n_NewLine_tie ?n_NewLine_typed ?pg_Ledgers ?hd_Ledgers ?po_Ledgers ?sa_Ledgers ?mk_Ledgers ?kc_Ledgers ?ha_Ledgers ?hm_Ledgers ?n_Ledgers_elder ?n_Ledgers_later ?n_Ledgers_ever ?n_Ledgers_fresh ?n_Ledgers_ahead ?pg_Years ?hd_Years ?po_Years ?sa_Years ?mk_Years ?kc_Years ?ha_Years ?hm_Years ?n_Years_plan ?n_Years_ledgers ?n_Years_story ?n_Years_wrong ?n_Years_past ?ne_Script_OldLine ?ne_Script_NewLine ?ne_Script_Ledgers ?ne_Script_Years ?ne_OldLine_NewLine ?ne_OldLine_Ledgers ?ne_OldLine_Years ?ne_NewLine_Ledgers ?ne_NewLine_Years ?ne_Ledgers_Years ?v_STEPS ?w_STEPS_0 ?w_STEPS_13 ?w_STEPS_15 ?w_STEPS_18 ?w_STEPS_21 ?w_STEPS_24 ?w_STEPS_27 ?w_STEPS_30 ?w_STEPS_33 ?w_STEPS_36 ?w_STEPS_39 ?w_STEPS_42 ?w_STEPS_45 ?v_MOST_STEPS ?v_MOST_LABEL ?v_MOST_AMOUNT ?v_MOST_NUMBER ?z_len ?z_isinstance ?z_int ?z_bool ?z_str ?z_tuple ?z_list ?z_all ?z_max ?z_min ?z_abs ?z_range ?z_enumerate ?z_dict
    (case cn => k_is)
    (case ctk => k_is)
    (case nC_Script => k_is)
    (case nC_OldLine => k_is)
    (case nC_NewLine => k_is)
    (case nC_Ledgers => k_is)
    (case nC_Years => k_is)
    (case a_is_whole => k_is)
    (case l_is_whole => k_is)
    (case c_is_whole => k_is)
    (case k_is_whole => k_is)
    (case a_is_label => k_is)
    (case l_is_label => k_is)
    (case c_is_label => k_is)
    (case k_is_label => k_is)
    (case a_is_amount => k_is)
    (case l_is_amount => k_is)
    (case c_is_amount => k_is)
    (case k_is_amount => k_is)
    (case a_is_number => k_is)
    (case l_is_number => k_is)
    (case c_is_number => k_is)
    (case k_is_number => k_is)
    (case a_is_deed => k_is)
    (case l_is_deed => k_is)
    (case c_is_deed => k_is)
    (case k_is_deed => k_is)
    (case a_OldLine_init => k_is)
    (case i_OldLine_init => k_is)
    (case l_OldLine_init => k_is)
    (case c_OldLine_init => k_is)
    (case k_OldLine_init => k_is)
    (case a_OldLine_row => k_is)
    (case i_OldLine_row => k_is)
    (case l_OldLine_row => k_is)
    (case c_OldLine_row => k_is)
    (case k_OldLine_row => k_is)
    (case a_NewLine_init => k_is)
    (case i_NewLine_init => k_is)
    (case l_NewLine_init => k_is)
    (case c_NewLine_init => k_is)
    (case k_NewLine_init => k_is)
    (case a_NewLine_row => k_is)
    (case i_NewLine_row => k_is)
    (case l_NewLine_row => k_is)
    (case c_NewLine_row => k_is)
    (case k_NewLine_row => k_is)
    (case a_Ledgers_init => k_is)
    (case i_Ledgers_init => k_is)
    (case l_Ledgers_init => k_is)
    (case c_Ledgers_init => k_is)
    (case k_Ledgers_init => k_is)
    (case a_Ledgers_old_line => k_is)
    (case i_Ledgers_old_line => k_is)
    (case l_Ledgers_old_line => k_is)
    (case c_Ledgers_old_line => k_is)
    (case k_Ledgers_old_line => k_is)
    (case a_Ledgers_new_line => k_is)
    (case i_Ledgers_new_line => k_is)
    (case l_Ledgers_new_line => k_is)
    (case c_Ledgers_new_line => k_is)
    (case k_Ledgers_new_line => k_is)
    (case a_Ledgers_rows => k_is)
    (case i_Ledgers_rows => k_is)
    (case l_Ledgers_rows => k_is)
    (case c_Ledgers_rows => k_is)
    (case k_Ledgers_rows => k_is)
    (case a_Ledgers_check => k_is)
    (case i_Ledgers_check => k_is)
    (case l_Ledgers_check => k_is)
    (case c_Ledgers_check => k_is)
    (case k_Ledgers_check => k_is)
    (case a_Ledgers_play_deed => k_is)
    (case i_Ledgers_play_deed => k_is)
    (case l_Ledgers_play_deed => k_is)
    (case c_Ledgers_play_deed => k_is)
    (case k_Ledgers_play_deed => k_is)
    (case a_Ledgers_set_field => k_is)
    (case i_Ledgers_set_field => k_is)
    (case l_Ledgers_set_field => k_is)
    (case c_Ledgers_set_field => k_is)
    (case k_Ledgers_set_field => k_is)
    (case a_Ledgers_write_field => k_is)
    (case i_Ledgers_write_field => k_is)
    (case l_Ledgers_write_field => k_is)
    (case c_Ledgers_write_field => k_is)
    (case k_Ledgers_write_field => k_is)
    (case a_Ledgers_put_line => k_is)
    (case i_Ledgers_put_line => k_is)
    (case l_Ledgers_put_line => k_is)
    (case c_Ledgers_put_line => k_is)
    (case k_Ledgers_put_line => k_is)
    (case a_Ledgers_run => k_is)
    (case i_Ledgers_run => k_is)
    (case l_Ledgers_run => k_is)
    (case c_Ledgers_run => k_is)
    (case k_Ledgers_run => k_is)
    (case a_Ledgers_wrongs => k_is)
    (case i_Ledgers_wrongs => k_is)
    (case l_Ledgers_wrongs => k_is)
    (case c_Ledgers_wrongs => k_is)
    (case k_Ledgers_wrongs => k_is)
    (case a_OldLine_closing => k_is)
    (case i_OldLine_closing => k_is)
    (case l_OldLine_closing => k_is)
    (case c_OldLine_closing => k_is)
    (case k_OldLine_closing => k_is)
    (case a_NewLine_is_own => k_is)
    (case i_NewLine_is_own => k_is)
    (case l_NewLine_is_own => k_is)
    (case c_NewLine_is_own => k_is)
    (case k_NewLine_is_own => k_is)
    (case a_Ledgers_made_lines => k_is)
    (case i_Ledgers_made_lines => k_is)
    (case l_Ledgers_made_lines => k_is)
    (case c_Ledgers_made_lines => k_is)
    (case k_Ledgers_made_lines => k_is)
    (case a_Ledgers_source_of => k_is)
    (case i_Ledgers_source_of => k_is)
    (case l_Ledgers_source_of => k_is)
    (case c_Ledgers_source_of => k_is)
    (case k_Ledgers_source_of => k_is)
    (case a_Ledgers_is_in => k_is)
    (case i_Ledgers_is_in => k_is)
    (case l_Ledgers_is_in => k_is)
    (case c_Ledgers_is_in => k_is)
    (case k_Ledgers_is_in => k_is)
    (case a_Ledgers_make => k_is)
    (case i_Ledgers_make => k_is)
    (case l_Ledgers_make => k_is)
    (case c_Ledgers_make => k_is)
    (case k_Ledgers_make => k_is)
    (case a_Ledgers_drop => k_is)
    (case i_Ledgers_drop => k_is)
    (case l_Ledgers_drop => k_is)
    (case c_Ledgers_drop => k_is)
    (case k_Ledgers_drop => k_is)
    (case a_Ledgers_follow => k_is)
    (case i_Ledgers_follow => k_is)
    (case l_Ledgers_follow => k_is)
    (case c_Ledgers_follow => k_is)
    (case k_Ledgers_follow => k_is)
    (case a_Ledgers_old_wrongs => k_is)
    (case i_Ledgers_old_wrongs => k_is)
    (case l_Ledgers_old_wrongs => k_is)
    (case c_Ledgers_old_wrongs => k_is)
    (case k_Ledgers_old_wrongs => k_is)
    (case a_Ledgers_typed_wrongs => k_is)
    (case i_Ledgers_typed_wrongs => k_is)
    (case l_Ledgers_typed_wrongs => k_is)
    (case c_Ledgers_typed_wrongs => k_is)
    (case k_Ledgers_typed_wrongs => k_is)
    (case a_OldLine_twin => k_is)
    (case i_OldLine_twin => k_is)
    (case l_OldLine_twin => k_is)
    (case c_OldLine_twin => k_is)
    (case k_OldLine_twin => k_is)
    (case a_NewLine_twin => k_is)
    (case i_NewLine_twin => k_is)
    (case l_NewLine_twin => k_is)
    (case c_NewLine_twin => k_is)
    (case k_NewLine_twin => k_is)
    (case a_Ledgers_twin => k_is)
    (case i_Ledgers_twin => k_is)
    (case l_Ledgers_twin => k_is)
    (case c_Ledgers_twin => k_is)
    (case k_Ledgers_twin => k_is)
    (case a_is_step => k_is)
    (case l_is_step => k_is)
    (case c_is_step => k_is)
    (case k_is_step => k_is)
    (case a_Script_init => k_is)
    (case i_Script_init => k_is)
    (case l_Script_init => k_is)
    (case c_Script_init => k_is)
    (case k_Script_init => k_is)
    (case a_Script_steps => k_is)
    (case i_Script_steps => k_is)
    (case l_Script_steps => k_is)
    (case c_Script_steps => k_is)
    (case k_Script_steps => k_is)
    (case a_check_all => k_is)
    (case l_check_all => k_is)
    (case c_check_all => k_is)
    (case k_check_all => k_is)
    (case a_Years_init => k_is)
    (case i_Years_init => k_is)
    (case l_Years_init => k_is)
    (case c_Years_init => k_is)
    (case k_Years_init => k_is)
    (case a_Years_len => k_is)
    (case i_Years_len => k_is)
    (case l_Years_len => k_is)
    (case c_Years_len => k_is)
    (case k_Years_len => k_is)
    (case a_Years_runs => k_is)
    (case pg_Years_runs => k_is)
    (case pt_Years_runs => k_is)
    (case pr_Years_runs => k_is)
    (case l_Years_runs => k_is)
    (case c_Years_runs => k_is)
    (case k_Years_runs => k_is)
    (case a_Years_script => k_is)
    (case pg_Years_script => k_is)
    (case pt_Years_script => k_is)
    (case pr_Years_script => k_is)
    (case l_Years_script => k_is)
    (case c_Years_script => k_is)
    (case k_Years_script => k_is)
    (case a_Years_remember => k_is)
    (case i_Years_remember => k_is)
    (case l_Years_remember => k_is)
    (case c_Years_remember => k_is)
    (case k_Years_remember => k_is)
    (case a_Years_play_all => k_is)
    (case i_Years_play_all => k_is)
    (case l_Years_play_all => k_is)
    (case c_Years_play_all => k_is)
    (case k_Years_play_all => k_is)
    (case a_Years_do => k_is)
    (case i_Years_do => k_is)
    (case l_Years_do => k_is)
    (case c_Years_do => k_is)
    (case k_Years_do => k_is)
    (case a_Years_do_all => k_is)
    (case i_Years_do_all => k_is)
    (case l_Years_do_all => k_is)
    (case c_Years_do_all => k_is)
    (case k_Years_do_all => k_is)
    (case a_Years_change => k_is)
    (case i_Years_change => k_is)
    (case l_Years_change => k_is)
    (case c_Years_change => k_is)
    (case k_Years_change => k_is)
    (case a_Years_undo => k_is)
    (case i_Years_undo => k_is)
    (case l_Years_undo => k_is)
    (case c_Years_undo => k_is)
    (case k_Years_undo => k_is)
    (case a_Years_old => k_is)
    (case i_Years_old => k_is)
    (case l_Years_old => k_is)
    (case c_Years_old => k_is)
    (case k_Years_old => k_is)
    (case a_Years_new => k_is)
    (case i_Years_new => k_is)
    (case l_Years_new => k_is)
    (case c_Years_new => k_is)
    (case k_Years_new => k_is)
    (case a_Years_faults => k_is)
    (case i_Years_faults => k_is)
    (case l_Years_faults => k_is)
    (case c_Years_faults => k_is)
    (case k_Years_faults => k_is)
    (case a_Years_made_of => k_is)
    (case i_Years_made_of => k_is)
    (case l_Years_made_of => k_is)
    (case c_Years_made_of => k_is)
    (case k_Years_made_of => k_is)
    (case a_jar => k_is)
    (case l_jar => k_is)
    (case c_jar => k_is)
    (case k_jar => k_is)
    (case a_draw => k_is)
    (case l_draw => k_is)
    (case c_draw => k_is)
    (case k_draw => k_is)
    (case a_any_step => k_is)
    (case l_any_step => k_is)
    (case c_any_step => k_is)
    (case k_any_step => k_is)
    (case a_plan => k_is)
    (case l_plan => k_is)
    (case c_plan => k_is)
    (case k_plan => k_is)
    (case a_act => k_is)
    (case l_act => k_is)
    (case c_act => k_is)
    (case k_act => k_is)
    (case a_stand => k_is)
    (case l_stand => k_is)
    (case c_stand => k_is)
    (case k_stand => k_is)
    (case a_called => k_is)
    (case l_called => k_is)
    (case c_called => k_is)
    (case k_called => k_is)
    (case a_right => k_is)
    (case l_right => k_is)
    (case c_right => k_is)
    (case k_right => k_is)
    (case a_law => k_is)
    (case l_law => k_is)
    (case c_law => k_is)
    (case k_law => k_is)
    (case pg_Script => k_is)
    (case hd_Script => k_is)
    (case po_Script => k_is)
    (case sa_Script => k_is)
    (case mk_Script => k_is)
    (case kc_Script => k_is)
    (case ha_Script => k_is)
    (case hm_Script => k_is)
    (case n_Script_kept_steps => k_is)
    (case pg_OldLine => k_is)
    (case hd_OldLine => k_is)
    (case po_OldLine => k_is)
    (case sa_OldLine => k_is)
    (case mk_OldLine => k_is)
    (case kc_OldLine => k_is)
    (case ha_OldLine => k_is)
    (case hm_OldLine => k_is)
    (case n_OldLine_number => k_is)
    (case n_OldLine_label => k_is)
    (case n_OldLine_start => k_is)
    (case n_OldLine_moves => k_is)
    (case n_OldLine_tie => k_is)
    (case n_OldLine_standing => k_is)
    (case pg_NewLine => k_is)
    (case hd_NewLine => k_is)
    (case po_NewLine => k_is)
    (case sa_NewLine => k_is)
    (case mk_NewLine => k_is)
    (case kc_NewLine => k_is)
    (case ha_NewLine => k_is)
    (case hm_NewLine => k_is)
    (case n_NewLine_number => k_is)
    (case n_NewLine_label => k_is)
    (case n_NewLine_start => k_is)
    (case n_NewLine_source => k_is)
    (case n_NewLine_moves => k_is)
    (case n_NewLine_tie => k_is)
    (case n_NewLine_typed => k_is)
    (case pg_Ledgers => k_is)
    (case hd_Ledgers => k_is)
    (case po_Ledgers => k_is)
    (case sa_Ledgers => k_is)
    (case mk_Ledgers => k_is)
    (case kc_Ledgers => k_is)
    (case ha_Ledgers => k_is)
    (case hm_Ledgers => k_is)
    (case n_Ledgers_elder => k_is)
    (case n_Ledgers_later => k_is)
    (case n_Ledgers_ever => k_is)
    (case n_Ledgers_fresh => k_is)
    (case n_Ledgers_ahead => k_is)
    (case pg_Years => k_is)
    (case hd_Years => k_is)
    (case po_Years => k_is)
    (case sa_Years => k_is)
    (case mk_Years => k_is)
    (case kc_Years => k_is)
    (case ha_Years => k_is)
    (case hm_Years => k_is)
    (case n_Years_plan => k_is)
    (case n_Years_ledgers => k_is)
    (case n_Years_story => k_is)
    (case n_Years_wrong => k_is)
    (case n_Years_past => k_is)
    (case ne_Script_OldLine => decide)
    (case ne_Script_NewLine => decide)
    (case ne_Script_Ledgers => decide)
    (case ne_Script_Years => decide)
    (case ne_OldLine_NewLine => decide)
    (case ne_OldLine_Ledgers => decide)
    (case ne_OldLine_Years => decide)
    (case ne_NewLine_Ledgers => decide)
    (case ne_NewLine_Years => decide)
    (case ne_Ledgers_Years => decide)
    (case v_STEPS => k_is)
    (case w_STEPS_0 => k_is)
    (case w_STEPS_13 => k_is)
    (case w_STEPS_15 => k_is)
    (case w_STEPS_18 => k_is)
    (case w_STEPS_21 => k_is)
    (case w_STEPS_24 => k_is)
    (case w_STEPS_27 => k_is)
    (case w_STEPS_30 => k_is)
    (case w_STEPS_33 => k_is)
    (case w_STEPS_36 => k_is)
    (case w_STEPS_39 => k_is)
    (case w_STEPS_42 => k_is)
    (case w_STEPS_45 => k_is)
    (case v_MOST_STEPS => k_is)
    (case v_MOST_LABEL => k_is)
    (case v_MOST_AMOUNT => k_is)
    (case v_MOST_NUMBER => k_is)
    (case z_len => k_is)
    (case z_isinstance => k_is)
    (case z_int => k_is)
    (case z_bool => k_is)
    (case z_str => k_is)
    (case z_tuple => k_is)
    (case z_list => k_is)
    (case z_all => k_is)
    (case z_max => k_is)
    (case z_min => k_is)
    (case z_abs => k_is)
    (case z_range => k_is)
    (case z_enumerate => k_is)
    (case z_dict => k_is)
