import PyProof.Rows.All
import Wide.All
import OpenK.AllK
import Wide.FinOn
import PyProof.EqAt
import PyProof.EqKinds
import PyProof.TupleCall
import KE.GoesMore
import KE.GoesEnum
import HandS.ForMost
import HandS.Wide
import HandS.Codes
import HandS.Style
import HandS.TupAny
import HandS.IsInst
import HandS.Deep
import HandS.Defaults
import HandS.DictComp
import HandS.NoneIn
import HandS.Iter
import HandS.Star
import HandS.Star
import HandS.ExcInit
import HandS.ExcOwn
import HandS.WordsExc
import HandS.TryMany
import HandS.TryOnly
import HandS.ExcField
import HandS.ExcIs
import HandS.MakeKwOnly
import HandS.TupMul
import HandS.DictComp
import HandS.RaiseMore
import HandS.Property
import PyProof.Rows.SeqMore
import PySem.Challenge.RW_yearturned_k11_script_texts_refused
set_option Elab.async false
set_option linter.all false
set_option maxRecDepth 100000
set_option maxHeartbeats 4000000
/-! ### rules that the layer lacks -/
namespace YR
open PySem PySem.SeqAt PyProof.Rows
open AutoSeq1 (wpAny_loadPart')
theorem typeCall_enum1 (a : Addr) : True := True.intro
set_option maxHeartbeats 1000000 in
theorem meets_enum_newT (l : Addr) (items : Array Value) :
    Meets (Builtin.«enumerate.__new__» ⟨[.type "enumerate", .ref l], []⟩) (fun _ R s => s.heap.IsTuple l items ∧
      R (.ok (.ret (.ref (s.heap.push { cls := .type "tuple_iterator", data := .fields #[.ref l, .int 0 0] }).objs.size)))
        { s with heap := (s.heap.push { cls := .type "tuple_iterator", data := .fields #[.ref l, .int 0 0] }).push { cls := .type "enumerate", data := .fields #[.none, .bool false, .ref s.heap.objs.size, rawInt 0, .none, .none] } }) :=
  .of_wp fun prog w A R s h => by
    obtain ⟨hp, g, d, tk, os⟩ := s; obtain ⟨h1, h⟩ := h
    have hsub := sub_enumerate
    have q1 : ∀ {A' : Around} {E : Value → Shared → Prop} {Q : Value → Shared → Prop}, Q (.ref hp.objs.size) ⟨hp.push { cls := .type "tuple_iterator", data := .fields #[.ref l, .int 0 0] }, g, d, tk, os⟩ → wpAny (model prog w) A' (pyIter (.ref l)) Q E ⟨hp, g, d, tk, os⟩ :=
      fun q => wpAny_pyIter_tuple (s := ⟨hp, g, d, tk, os⟩) h1 q
    wp_walk using q1
    refine wpAny_stack_any fun st => wpAny_pure ?_
    split
    · rename_i c _ _ _ _ _
      cases (c == Value.type "enumerate")
      · wp_walk using q1
        exact ⟨_, rfl, h⟩
      · wp_walk using q1
        exact ⟨_, rfl, h⟩
    · wp_walk using q1
      exact ⟨_, rfl, h⟩
section
variable {prog : Program} {w : World} {A : Around} {E : Value → Shared → Prop} {s : Shared}
theorem call_enumerate_tuple {l : Addr} {items : Array Value} {Q : Value → Shared → Prop} (hL : s.heap.IsTuple l items)
    (h : ∀ h', IsEnum h' (s.heap.objs.size + 1) s.heap.objs.size 0 .none → h'.IsTupleIter s.heap.objs.size l 0 → h'.objs.size = s.heap.objs.size + 2 →
      (∀ b o, s.heap.get? b = some o → h'.get? b = some o) → Q (.ref (s.heap.objs.size + 1)) { s with heap := h' }) :
    wpAny (model prog w) A (call (.type "enumerate") [.ref l]) Q E s := by
  refine callType_new F.called_enumerate (by decide) (F.typeCall_enumerate_1 _) (F.newCall_enumerate_1 _) (fun obj => F.args_object_init_2 obj _) F.entry_enumerate_new
    (meets_enum_newT l items) ⟨hL, ?_⟩
  have hz : (s.heap.push { cls := .type "tuple_iterator", data := .fields #[.ref l, .int 0 0] }).objs.size = s.heap.objs.size + 1 := Heap.size_push ..
  show _ ∧ _
  rw [hz]
  have he : IsEnum ((s.heap.push { cls := .type "tuple_iterator", data := .fields #[.ref l, .int 0 0] }).push { cls := .type "enumerate", data := .fields #[.none, .bool false, .ref s.heap.objs.size, rawInt 0, .none, .none] }) (s.heap.objs.size + 1) s.heap.objs.size 0 .none := by
    have := Heap.get?_push_size (s.heap.push { cls := .type "tuple_iterator", data := .fields #[.ref l, .int 0 0] }) (o := { cls := .type "enumerate", data := .fields #[.none, .bool false, .ref s.heap.objs.size, rawInt 0, .none, .none] }) rfl
    rw [hz] at this; exact this
  refine ⟨⟨_, he, rfl⟩, h _ he ⟨_, Heap.get?_push_of_some _ (Heap.get?_push_size _ rfl), rfl, rfl⟩ (by rw [Heap.size_push, hz]) fun b o x => Heap.get?_push_of_some _ (Heap.get?_push_of_some _ x)⟩
end
end YR
namespace L2
open PySem PySem.Spec PyProof.Rows
/-! ### ** of great ints -/
def CPowW (i j : Int) : Prop := 0 ≤ j ∧ ((i.natAbs.log2 : Int) + 1) * j ≤ 2 ^ 27
section
variable {X : Cx}
theorem op_powW : OpR X (binaryOp .Pow) (rI CPowW fun i j => .int (i ^ j.toNat)) := opI fun i j _ _ _ _ _ hc q => by
  refine PyProof.Rows.pow_int hc.1 ?_ q
  have h1 : (Builtin.Int.intBits i : Int) ≤ (i.natAbs.log2 : Int) + 1 := by
    unfold Builtin.Int.intBits
    split <;> omega
  exact Int.le_trans (Int.mul_le_mul_of_nonneg_right h1 hc.1) hc.2
end
theorem powW {i j : Int} {a : Nat} (h : i.natAbs < 2 ^ a) (h0 : 0 < a) (hj : 0 ≤ j) (hz : (a : Int) * j ≤ 2 ^ 27) : CPowW i j := by
  refine ⟨hj, ?_⟩
  have x := PySem.Flt.log2_lt_of h0 h
  have y : ((i.natAbs.log2 : Int) + 1) ≤ (a : Int) := by omega
  exact Int.le_trans (Int.mul_le_mul_of_nonneg_right y hj) hz
/-! ### x in a tuple of data -/
section
variable {X : Cx}
def rInTD (K : PySem.W.Frag) : R2 := fun x y H Q => ∃ d ds, Dp K H x d ∧ Dp K H y (.tuple ds) ∧ SeqAt.shaped d = true ∧ SeqAt.shaped (.tuple ds) = true ∧ Q (.bl (ds.any fun z => PyData.eqv z d)) H
def rNotInTD (K : PySem.W.Frag) : R2 := fun x y H Q => ∃ d ds, Dp K H x d ∧ Dp K H y (.tuple ds) ∧ SeqAt.shaped d = true ∧ SeqAt.shaped (.tuple ds) = true ∧ Q (.bl (!ds.any fun z => PyData.eqv z d)) H
theorem op_inTD (hu : X.A.units + 65 < cLine) : OpR X (compareOp .In) (rInTD X.K) := by
  intro pins s σ H x y v u Q I rx ry h
  obtain ⟨d, ds, hd, he, sd, se, q⟩ := h
  obtain ⟨as, r1⟩ := Dp.reads I d x v hd rx
  obtain ⟨bs, r2⟩ := Dp.reads I (.tuple ds) y u he ry
  exact SeqAt.in_tuple_reads r2 r1 (SeqAt.canLay_of_shaped se) (SeqAt.canLay_of_shaped sd) (room_in_shaped sd hu) ⟨.bl _, H, I, rfl, q⟩
theorem op_notInTD (hu : X.A.units + 65 < cLine) : OpR X (compareOp .NotIn) (rNotInTD X.K) := by
  intro pins s σ H x y v u Q I rx ry h
  obtain ⟨d, ds, hd, he, sd, se, q⟩ := h
  obtain ⟨as, r1⟩ := Dp.reads I d x v hd rx
  obtain ⟨bs, r2⟩ := Dp.reads I (.tuple ds) y u he ry
  exact SeqAt.notIn_tuple_reads r2 r1 (SeqAt.canLay_of_shaped se) (SeqAt.canLay_of_shaped sd) (room_in_shaped sd hu) ⟨.bl _, H, I, rfl, q⟩
end
/-! ### enumerate(tuple) -/
def IteT (K : PySem.W.Frag) (a : Addr) : It :=
  ⟨fun i H => ∃ (xs : List V) (x : V), SqT K H a xs ∧ xs[i]? = some x, fun i H v H' => ∃ T x, v = .ref T ∧ H T = none ∧ H' = upd H T (.tup [.int (i : Nat), x]) ∧ ∀ xs, SqT K H a xs → xs[i]? = some x, fun i H => ∃ xs : List V, SqT K H a xs ∧ xs.length = i⟩
theorem turn_enumT {P : Program} {w : World} {K : PySem.W.Frag} {elts : List Expr} {kk : Nat} {tpos : Pos} (a e it : Addr) :
    Turn P w K (.Tuple elts kk tpos) (IteT K a) [e, it] e (fun i h => (∃ old, IsEnum h e it ((i : Nat) : Int) old) ∧ h.IsTupleIter it a i ∧ e ≠ it) where
  mem := by simp
  obj := fun i h st b hb => by
    obtain ⟨⟨old, he⟩, ⟨o, ho, hc, hd⟩, _⟩ := st
    have e' : b = e ∨ b = it := by simpa using hb
    rcases e' with z | z
    · rw [z]; exact ⟨_, he, fun v q => nomatch q⟩
    · rw [z]; exact ⟨o, ho, fun v q => by rw [hd] at q; cases q⟩
  keep := fun i h h' st k => let ⟨⟨old, he⟩, hi, hne⟩ := st; ⟨⟨old, k e (by simp) _ he⟩, hi.at fun o q => k it (by simp) o q, hne⟩
  item := by
    intro X hP hw hK hc i pins s σ H E I hf st hg
    subst hP hw hK
    obtain ⟨⟨old, he⟩, hit, hne⟩ := st
    obtain ⟨xs, x, hq, hx⟩ := hg
    obtain ⟨its, rv, p, hz⟩ := I.tuple hq
    obtain ⟨u, hu, ru⟩ := rv.get hx
    have hel : e < s.heap.objs.size := Heap.lt_size he
    have hil : it < s.heap.objs.size := by obtain ⟨_, q, _⟩ := hit; exact Heap.lt_size q
    have hta : a ≠ it := by
      rintro rfl
      obtain ⟨o1, q1, q2, _⟩ := hit
      obtain ⟨o2, q3, q4, _⟩ := p
      rw [q1] at q3; cases q3
      rw [q2] at q4; simp at q4
    have hea : e ∉ [it, a] := by
      intro hb
      rcases List.mem_cons.mp hb with z | z
      · exact hne z
      · have z' : e = a := by simpa using z
        subst z'
        obtain ⟨o2, q3, q4, _⟩ := p
        rw [he] at q3; cases q3
        simp at q4
    have his : i < its.toArray.size := by
      have := (List.getElem?_eq_some_iff.mp hu).1
      simpa using this
    refine wpAny_pyNext_enum_itemD (Draws.tuple (show X.A.in1.handled = none from I.ok.hd hc) it a hta its.toArray) he ⟨hit, p⟩ his hne hea fun y h' tk hy ho hst hT hsz hk => ?_
    have ey : y = u := by
      have q1 : its.toArray[i]? = some y := hy
      have q2 : its.toArray[i]? = some u := by simpa using hu
      rw [q1] at q2; exact Option.some.inj q2
    subst ey
    refine ⟨_, rfl, wpAny_letOwnedTupleGo_enum (s := { s with heap := h', toks := tk + 1 }) ho fun h'' he' sb => ?_⟩
    have hT2 : h''.get? s.heap.objs.size = some { cls := .type "tuple", data := .seq #[.int i tk, y] } := (sb.2 _ (Nat.ne_of_gt hel)).trans hT
    have new : ObjOk X.prog X.w (upd H s.heap.objs.size (.tup [.int (i : Nat), x])) h'' s.heap.objs.size (.tup [.int (i : Nat), x]) :=
      ⟨by show 2 ≤ sizeLine; decide, [.int i tk, y], .cons ⟨_, rfl⟩ (.cons ru .nil), ⟨_, hT2, rfl, _, rfl⟩⟩
    have I1 : Inv X pins σ (upd H s.heap.objs.size (.tup [.int (i : Nat), x])) { s with heap := h'', toks := tk + 1 } :=
      I.turnedNew (ch := [e, it]) (fun b ob hb q => (sb.2 b (fun z => hb (by simp [z]))).trans (hk b ob (fun z => hb (by simp [z])) (fun z => hb (by simp [z])) q)) hf (Nat.le_refl _) new
    refine ⟨.ref s.heap.objs.size, _, I1, rfl, ⟨_, x, rfl, I.hok.fresh (Nat.le_refl _), rfl, fun ys hy => by rw [I.tuple_inj hy hq]; exact hx⟩, ⟨⟨y, ?_⟩, hst.1.at fun o q => (sb.2 it (Ne.symm hne)).trans q, hne⟩, fun b hb => ?_⟩
    · have e1 : ((i + 1 : Nat) : Int) = (i : Int) + 1 := by omega
      rw [e1]; exact he'
    · have hb' : b < s.heap.objs.size := by
        have e' : b = e ∨ b = it := by simpa using hb
        rcases e' with z | z
        · rw [z]; exact hel
        · rw [z]; exact hil
      rw [upd_ne (Nat.ne_of_lt hb')]
      exact (hf b hb).1
  done := by
    intro X hP hw hK hc i pins s σ H E I hf st hg
    subst hP hw hK
    obtain ⟨⟨old, he⟩, hit, hne⟩ := st
    obtain ⟨xs, hq, hx⟩ := hg
    obtain ⟨its, rv, p, hz⟩ := I.tuple hq
    obtain ⟨f0, f1, f2, f3, f4, f5⟩ := hf it (by simp)
    have hl := rv.length
    have hta : a ≠ it := by
      rintro rfl
      obtain ⟨o1, q1, q2, _⟩ := hit
      obtain ⟨o2, q3, q4, _⟩ := p
      rw [q1] at q3; cases q3
      rw [q2] at q4; simp at q4
    have D := Draws.tuple (prog := X.prog) (w := X.w) (show X.A.in1.handled = none from I.ok.hd hc) it a hta its.toArray
    have hit' : s.heap.IsTupleIter it a its.toArray.size := by
      have z : its.toArray.size = i := by simp; omega
      rw [z]; exact hit
    exact wpAny_pyNext_enum_endD D he ⟨hit', p⟩ fun h' eb => ⟨rfl, I.turned (t' := s.toks) (fun b o hb q => eb b o hb q) f0 f1 f3 f4 f5⟩
  self := fun A i s Q E st h => let ⟨⟨_, he⟩, _⟩ := st; wpAny_pyIter_enum he h
def iEnumT (K : PySem.W.Frag) (ta : TA) : TI := fun σ H R => ta σ H fun vs H1 => ∃ a xs, vs = [.ref a] ∧ SqT K H1 a xs ∧ R (IteT K a) H1
theorem pi_enumT {X : Cx} {e : Expr} {ta : TA} {p pos tpos : Pos} {elts : List Expr} {kk : Nat} (hg : Gl X "enumerate") (hm : X.mg "enumerate" = none) (ha : PA X [e] ta) (hs : starEach [e] X.env = [(false, eval e X.env)] := by rfl) :
    PI X (.Tuple elts kk tpos) (.Call (.Name "enumerate" p) [e] [] pos) (iEnumT X.K ta) := by
  refine ⟨fun pins s σ H R I h => ?_⟩
  refine Call_ (ld_blt I hg hm boot_enumerate (PyProof.Rows.callWith_type1 (thn (ha.run pos pins s σ H _ I h) fun us s1 ⟨vs, H1, I1, r1, q1⟩ => ?_) hs rfl))
  obtain ⟨a, xs, ex, hq, q⟩ := q1
  subst ex
  cases r1 with
  | cons r rr =>
    cases rr
    cases r
    obtain ⟨its, rv, p', hz⟩ := I1.tuple hq
    refine YR.call_enumerate_tuple (show s1.heap.IsTuple a its.toArray from p') fun h' he hit hsz hk => wpAny_pyIter_enum he ?_
    have I2 : Inv X pins σ H1 { s1 with heap := h' } := I1.kept (t' := s1.toks) hk
    refine ⟨s1.heap.objs.size + 1, [s1.heap.objs.size + 1, s1.heap.objs.size], _, _, H1, rfl, I2, turn_enumT a (s1.heap.objs.size + 1) s1.heap.objs.size, ⟨⟨.none, he⟩, hit, Nat.succ_ne_self _⟩, fun b hb => ?_, q⟩
    have e' : b = s1.heap.objs.size + 1 ∨ b = s1.heap.objs.size := by simpa using hb
    have hle : s1.heap.objs.size ≤ b := by
      rcases e' with z | z
      · rw [z]; exact Nat.le_add_right _ _
      · rw [z]; exact Nat.le_refl _
    exact I1.fpOk hle (I1.hok.fresh hle)
theorem for_enumT {K : PySem.W.Frag} {a : Addr} {xs : List V} {g : TG} {tb : TS} {D : Ends} {σ : St} {H : Hp} (Pv : Nat → St → Hp → Prop) (h0 : Pv 0 σ H) (hl : ∀ i σ H, i ≤ xs.length → Pv i σ H → SqT K H a xs)
    (hs : ∀ i x T σ H, xs[i]? = some x → Pv i σ H → H T = none → g (.ref T) σ (upd H T (.tup [.int (i : Nat), x])) fun σ2 H2 => tb { D with nx := Pv (i + 1), ct := Pv (i + 1), bk := D.nx } σ2 H2) (hd : ∀ σ H, Pv xs.length σ H → D.nx σ H) :
    ∃ W : Nat → Nat → St → Hp → Prop, (∃ m, W 0 m σ H) ∧ ∀ i m σ H, W i m σ H →
      ((IteT K a).stop i H ∧ D.nx σ H) ∨ ((IteT K a).go i H ∧ ∃ N : St → Hp → Prop, (∀ σ' H', N σ' H' → ∃ m', m' < m ∧ W (i + 1) m' σ' H') ∧ ∀ x H', (IteT K a).yld i H x H' → g x σ H' fun σ2 H2 => tb { D with nx := N, ct := N, bk := D.nx } σ2 H2) := by
  refine ⟨fun i m σ H => m = xs.length - i ∧ i ≤ xs.length ∧ Pv i σ H, ⟨xs.length, by simp, Nat.zero_le _, h0⟩, ?_⟩
  rintro i m σ H ⟨rfl, hi, p⟩
  have q := hl i σ H hi p
  by_cases hlt : i < xs.length
  · refine .inr ⟨⟨xs, xs[i], q, by simp [hlt]⟩, Pv (i + 1), fun σ' H' p' => ⟨xs.length - (i + 1), by omega, rfl, hlt, p'⟩, fun x H' y => ?_⟩
    obtain ⟨T, x', rfl, hT, rfl, hx⟩ := y
    exact hs i x' T σ H (hx xs q) p hT
  · have e : i = xs.length := by omega
    subst e
    exact .inl ⟨⟨xs, q, rfl⟩, hd σ H p⟩
/-! ### len(o), o[i], x in o by the class's own defs -/
section
variable {X : Cx} {CX : CXT} {k : Nat} {f C : Addr} {fd : FuncData} {ps : List Str} {sp : Sp} {E : XK}
theorem run_in1 {pins : List (Addr × Obj)} {σ : St} {H : Hp} {s : Shared} {Q : VK} {us : List Value} {vs : List V} (F : FnOk X.prog X.w X.K X.mg X.base CX k f fd ps sp) (hr : Room (k + 1) X.A) (hb : Binds X.K fd ps []) (hx : Passes CX X E)
    (I : Inv X pins σ H s) (r : Vals vs us) (h : sp vs H Q E) : wpAny (model X.prog X.w) X.A.in1 (call (.ref f) us) (EP X pins σ Q) X.xe s := by
  have hl : us.length = ps.length := by rw [← r.length]; exact F.len _ _ _ _ h
  refine wpAny_call (codeAny_mono (F.run X.A.in1 X.stack s H ⟨us, []⟩ us vs Q E hr.in1 I.env0.in1 (by have q := hb s us I.kIn (by simpa using hl); simpa using q) r h) fun r s' hq => ?_)
  cases r with
  | error e => exact hx pins σ H s e s' I hq
  | ok fl =>
    cases fl with
    | ret u => exact I.after hq
    | next => exact False.elim hq
    | brk => exact False.elim hq
    | cont => exact False.elim hq
theorem ins_at {pins : List (Addr × Obj)} {σ : St} {H : Hp} {s : Shared} {a dx : Addr} {fs : List (Str × V)} (I : Inv X pins σ H s) (e : H a = some (.ins C dx fs)) : ∃ od, PySem.W.InstAt s.heap a (PySem.W.instObj C dx) C (some od) := by
  obtain ⟨mA, O, _⟩ := ins_get I.hok e
  obtain ⟨od, J, _⟩ := O.look
  exact ⟨od, J⟩
/-- what a class says of one of its special defs -/
structure Spc (K : PySem.W.Frag) (C : Addr) (m : Str) (f : Addr) : Prop where
  at_ : PySem.W.findIn K (.ref C) m = some (some (.ref f))
  fn : PySem.W.isFn K (.ref f) = true
def rLenO (C : Addr) (sp : Sp) (E : XK) : List V → Hp → VK → Prop := fun xs H Q => ∃ a dx fs, xs = [.ref a] ∧ H a = some (.ins C dx fs) ∧ sp [.ref a] H (fun v H' => ∃ n : Int, v = .int n ∧ 0 ≤ n ∧ n < 2 ^ 63 ∧ Q (.int n) H') E
theorem call_lenO (hs : Spc X.K C "__len__" f) (F : FnOk X.prog X.w X.K X.mg X.base CX k f fd ps sp) (hr : Room (k + 1) X.A) (hb : Binds X.K fd ps []) (hx : Passes CX X E) : CallR X (.builtin "len") (rLenO C sp E) := by
  intro pins s σ H xs us Q I r h
  obtain ⟨a, dx, fs, rfl, e, h⟩ := h
  obtain ⟨u, rfl, ru⟩ := vals1 r
  cases ru
  obtain ⟨od, J⟩ := ins_at I e
  obtain ⟨m, F0⟩ := I.fr
  refine PySem.W.len_K F0 I.ok.mod.kin J hs.at_ hs.fn (wpAny_mono (run_in1 F hr hb hx I (vs := [.ref a]) (.cons rfl .nil) h) (fun v s' q => ?_) fun _ _ z => z)
  obtain ⟨v', H', I', rv, n, rfl, h0, h1, q⟩ := q
  obtain ⟨t, rfl⟩ := rv
  exact ⟨⟨h0, h1⟩, .int n, H', I'.tok _, ⟨_, rfl⟩, q⟩
theorem op_inO (hs : Spc X.K C "__contains__" f) (F : FnOk X.prog X.w X.K X.mg X.base CX k f fd ps sp) (hr : Room k X.A) (hb : Binds X.K fd ps []) (hx : Passes CX X E) :
    OpR X (compareOp .In) (fun x y H Q => ∃ a dx fs, y = .ref a ∧ H a = some (.ins C dx fs) ∧ sp [.ref a, x] H (fun v H' => ∃ b, v = .bl b ∧ Q (.bl b) H') E) := by
  intro pins s σ H x y v u Q I rx ry h
  obtain ⟨a, dx, fs, rfl, e, h⟩ := h
  cases ry
  obtain ⟨od, J⟩ := ins_at I e
  obtain ⟨m, F0⟩ := I.fr
  refine PySem.W.in_K F0 I.ok.mod.kin J hs.at_ hs.fn (wpAny_mono (run_fn F hr hb .nil hx I (vs := [.ref a, x]) (us := [.ref a, v]) (.cons rfl (.cons rx .nil)) h) (fun v s' q => ?_) fun _ _ z => z)
  obtain ⟨v', H', I', rv, b, rfl, q⟩ := q
  cases rv
  exact wpAny_truthy_bool ⟨.bl b, H', I', rfl, q⟩
def rIxO (C : Addr) (sp : Sp) (E : XK) : R2 := fun x y H Q => ∃ a dx fs, x = .ref a ∧ H a = some (.ins C dx fs) ∧ sp [.ref a, y] H Q E
theorem pe_ixO {a b : Expr} {ta tb : TE} {pos : Pos} (hs : Spc X.K C "__getitem__" f) (hf : PySem.W.fnIn X.K f = true) (F : FnOk X.prog X.w X.K X.mg X.base CX k f fd ps sp) (hr : Room (k + 1) X.A) (hb : Binds X.K fd ps []) (hx : Passes CX X E)
    (ha : PE X a ta) (hb' : PE X b tb) (hsl : ∀ o i, subscripted b true o i = runValue (.builtin "lifetime.subscript" ⟨[o, i], []⟩)) : PE X (.Subscript a b pos) (tOp (rIxO C sp E) ta tb) := by
  refine ⟨fun pins s σ H Q I h => ?_⟩
  refine Subscript_ (binT ha hb' I h fun v u s2 x y H2 I2 rx ry q => ?_)
  obtain ⟨o, dx, fs, rfl, e, h⟩ := q
  cases rx
  obtain ⟨od, J⟩ := ins_at I2 e
  obtain ⟨m, F0⟩ := I2.fr
  exact PySem.W.sub_K F0 I2.ok.mod.kin J hs.at_ hf hs.fn (run_in1 F hr hb hx I2 (vs := [.ref o, y]) (us := [.ref o, u]) (.cons rfl (.cons ry .nil)) h) (hsl _ _)
/-- the program's own def stands there -/
theorem Fun.fnIn {K : PySem.W.Frag} {x qual : Str} {st : Stmt} {f : Addr} {fd : FuncData} (F : Fun K x qual st f fd) : PySem.W.fnIn K f = true := by
  obtain ⟨oc, od, kV, doc, pm, an, cdv, ct, osl, rfl, lk, hcd⟩ := F.ex
  unfold PySem.W.fnIn
  rw [lk] <;> rfl
end
end L2

namespace L2
open PySem PySem.Spec PyProof.Rows
theorem hu65 {k : Nat} {A : Around} (hr : Room k A) : A.units + 65 < cLine := by have := hr.un; omega
structure InsI (K : PySem.W.Frag) (C : Addr) : Prop where
  cl : Cls K C
  ha : PySem.W.findIn K (.ref C) "__class__" = some (some (.builtin "object.__class__"))
  hn : PySem.W.specialIn K (.builtin "object.__class__") "__get__" = some (some (.builtin "getset_descriptor.__get__"))
  htk : PySem.W.takesIn K (.builtin "object.__class__") = some true
  hm : PySem.W.mroIn K C (.type "object") = some true
theorem kit_self {K : PySem.W.Frag} {C : Addr} : PySem.W.kitOne K (.ref C) (.ref C) = some true := by
  unfold PySem.W.kitOne
  rw [if_pos (by simp)]
theorem InsI.ty {K : PySem.W.Frag} {H : Hp} {a C dx : Addr} {fs : List (Str × V)} (i : InsI K C) (e : H a = some (.ins C dx fs)) : TyX K H (.ref a) (.ref C) := .base (.ins e i.cl i.ha i.hn i.htk i.hm)
/-! ### heaps that have grown; one list changed -/
section
variable {K : PySem.W.Frag} {H H' H1 H2 : Hp} {a p : Addr} {o u : HO} {xs ys : List V} {v : V} {d : PyData} {ds : List PyData}
theorem Same.new (h : H p = none) : Same H (upd H p o) := fun b w e => by rw [upd_ne (ne_of_none e h)]; exact e
theorem Same.add (s : Same H H1) (h : H1 p = none) : Same H (upd H1 p o) := s.trans (Same.new h)
theorem Same.mut (s : Same H H1) (h : H p = none) : Same H (upd H1 p o) := fun b w e => by rw [upd_ne (ne_of_none e h)]; exact s b w e
theorem Same.rd (s : Same H H') (h : Rd H a u) : Rd H' a u := by
  rcases h with h | ⟨o, h⟩
  · exact .inl (s _ _ h)
  · exact .inr ⟨o, s _ _ h⟩
theorem Same.sqT (s : Same H H') (h : SqT K H a xs) : SqT K H' a xs := by
  rcases h with h | h
  · exact .inl (s.rd h)
  · exact .inr h
mutual
theorem Same.dp (s : Same H H') : ∀ {d : PyData} {v : V}, Dp K H v d → Dp K H' v d
  | _, _, .non => .non
  | _, _, .bl b => .bl b
  | _, _, .int i => .int i
  | _, _, .str x => .str x
  | _, _, .lst h1 h2 => .lst (s.seq h1) (Same.dpAll s h2)
  | _, _, .tup h1 h2 => .tup (s.sqT h1) (Same.dpAll s h2)
theorem Same.dpAll (s : Same H H') : ∀ {ds : List PyData} {vs : List V}, DpAll K H vs ds → DpAll K H' vs ds
  | _, _, .nil => .nil
  | _, _, .cons h1 h2 => .cons (Same.dp s h1) (Same.dpAll s h2)
end
/-! no lists within -/
mutual
def imm : PyData → Bool
  | .tuple xs => immAll xs
  | .list _ => false
  | .dict _ => false
  | _ => true
def immAll : List PyData → Bool
  | [] => true
  | d :: ds => imm d && immAll ds
end
/-- the tuples stand -/
def Tups (H H' : Hp) : Prop := (∀ a xs, H a = some (.tup xs) → H' a = some (.tup xs)) ∧ ∀ a o xs, H a = some (.frz o (.tup xs)) → H' a = some (.frz o (.tup xs))
theorem Tups.refl (H : Hp) : Tups H H := ⟨fun _ _ h => h, fun _ _ _ h => h⟩
theorem Tups.trans (a : Tups H H1) (b : Tups H1 H2) : Tups H H2 := ⟨fun x y h => b.1 x y (a.1 x y h), fun x y z h => b.2 x y z (a.2 x y z h)⟩
theorem Same.tups (s : Same H H') : Tups H H' := ⟨fun a xs h => s _ _ h, fun a o xs h => s _ _ h⟩
theorem Tups.mut (h : Mut (H p)) : Tups H (upd H p o) := by
  refine ⟨fun b xs e => ?_, fun b u xs e => ?_⟩
  · rw [upd_ne]
    · exact e
    · rintro rfl; rw [e] at h; exact h
  · rw [upd_ne]
    · exact e
    · rintro rfl; rw [e] at h; exact h
theorem Tups.sqT (s : Tups H H') (h : SqT K H a xs) : SqT K H' a xs := by
  rcases h with (h | ⟨o, h⟩) | h
  · exact .inl (.inl (s.1 _ _ h))
  · exact .inl (.inr ⟨o, s.2 _ _ _ h⟩)
  · exact .inr h
mutual
theorem Tups.dp (s : Tups H H') : ∀ {d : PyData} {v : V}, imm d = true → Dp K H v d → Dp K H' v d
  | _, _, _, .non => .non
  | _, _, _, .bl b => .bl b
  | _, _, _, .int i => .int i
  | _, _, _, .str x => .str x
  | _, _, q, .lst h1 h2 => by simp [imm] at q
  | _, _, q, .tup h1 h2 => .tup (s.sqT h1) (Tups.dpAll s (by simpa [imm] using q) h2)
theorem Tups.dpAll (s : Tups H H') : ∀ {ds : List PyData} {vs : List V}, immAll ds = true → DpAll K H vs ds → DpAll K H' vs ds
  | _, _, _, .nil => .nil
  | _, _, q, .cons h1 h2 => .cons (Tups.dp s (by simp only [immAll, Bool.and_eq_true] at q; exact q.1) h1) (Tups.dpAll s (by simp only [immAll, Bool.and_eq_true] at q; exact q.2) h2)
end
/-- all but p stands as it stood, and the tuples -/
structure But (p : Addr) (H H' : Hp) : Prop where
  keep : ∀ b o, H b = some o → b ≠ p → H' b = some o
  tups : Tups H H'
theorem But.refl (p : Addr) (H : Hp) : But p H H := ⟨fun _ _ h _ => h, Tups.refl H⟩
theorem But.trans (a : But p H H1) (b : But p H1 H2) : But p H H2 := ⟨fun x y h n => b.keep x y (a.keep x y h n) n, a.tups.trans b.tups⟩
theorem Same.but (s : Same H H') : But p H H' := ⟨fun b o h _ => s b o h, s.tups⟩
theorem But.mut (h : Mut (H p)) : But p H (upd H p o) := ⟨fun b u e n => by rw [upd_ne n]; exact e, Tups.mut h⟩
theorem But.new {f : Addr} (b : But p H H1) (h : H f = none) (hm : H1 f = none ∨ Mut (H1 f)) : But p H (upd H1 f o) :=
  ⟨fun c u e n => by rw [upd_ne (ne_of_none e h)]; exact b.keep c u e n, b.tups.trans (hm.elim (fun h => (Same.new h).tups) Tups.mut)⟩
theorem But.free (b : But p H H1) (hp : p ≠ a) (h : H1 a = none) : H a = none := by
  cases e : H a with
  | none => rfl
  | some o => rw [b.keep a o e (Ne.symm hp)] at h; cases h
theorem But.same (s : Same H H1) (b : But p H1 H2) (h : H p = none) : Same H H2 := fun a o e => b.keep a o (s a o e) (ne_of_none e h)
theorem But.dp (b : But p H H') (hi : imm d = true) (h : Dp K H v d) : Dp K H' v d := b.tups.dp hi h
theorem But.dpAll {vs : List V} (b : But p H H') (hi : immAll ds = true) (h : DpAll K H vs ds) : DpAll K H' vs ds := b.tups.dpAll hi h
/-! ### data -/
theorem Dp.int_inv {i : Int} (h : Dp K H v (.int i)) : v = .int i := by cases h; rfl
theorem Dp.str_inv {i : Str} (h : Dp K H v (.str i)) : v = .str i := by cases h; rfl
theorem Dp.bl_inv {i : Bool} (h : Dp K H v (.bool i)) : v = .bl i := by cases h; rfl
theorem Dp.non_inv (h : Dp K H v .none) : v = .non := by cases h; rfl
theorem Dp.tup_inv (h : Dp K H v (.tuple ds)) : ∃ a xs, v = .ref a ∧ SqT K H a xs ∧ DpAll K H xs ds := by
  cases h with
  | tup h1 h2 => exact ⟨_, _, rfl, h1, h2⟩
theorem Dp.lst_inv (h : Dp K H v (.list ds)) : ∃ a xs, v = .ref a ∧ SqL K H a xs ∧ DpAll K H xs ds := by
  cases h with
  | lst h1 h2 => exact ⟨_, _, rfl, h1, h2⟩
theorem DpAll.length : ∀ {xs : List V} {ds : List PyData}, DpAll K H xs ds → xs.length = ds.length
  | _, _, .nil => rfl
  | _, _, .cons _ h => by rw [List.length_cons, List.length_cons, DpAll.length h]
theorem DpAll.get : ∀ {xs : List V} {ds : List PyData} {i : Nat} {d : PyData}, DpAll K H xs ds → ds[i]? = some d → ∃ v, xs[i]? = some v ∧ Dp K H v d
  | _, _, _, _, .nil, e => by simp at e
  | _, _, 0, _, .cons h _, e => by simp at e; subst e; exact ⟨_, rfl, h⟩
  | _, _, i + 1, d, .cons _ t, e => by
    obtain ⟨v, h1, h2⟩ := DpAll.get (i := i) (d := d) t (by simpa using e)
    exact ⟨v, by simpa using h1, h2⟩
theorem DpAll.get' : ∀ {xs : List V} {ds : List PyData} {i : Nat} {v : V}, DpAll K H xs ds → xs[i]? = some v → ∃ d, ds[i]? = some d ∧ Dp K H v d
  | _, _, _, _, .nil, e => by simp at e
  | _, _, 0, _, .cons h _, e => by simp at e; subst e; exact ⟨_, rfl, h⟩
  | _, _, i + 1, v, .cons _ t, e => by
    obtain ⟨d, h1, h2⟩ := DpAll.get' (i := i) (v := v) t (by simpa using e)
    exact ⟨d, by simpa using h1, h2⟩
theorem DpAll.append : ∀ {xs ys : List V} {ds es : List PyData}, DpAll K H xs ds → DpAll K H ys es → DpAll K H (xs ++ ys) (ds ++ es)
  | _, _, _, _, .nil, h => h
  | _, _, _, _, .cons h t, h' => .cons h (DpAll.append t h')
theorem DpAll.take : ∀ {xs : List V} {ds : List PyData} (n : Nat), DpAll K H xs ds → DpAll K H (xs.take n) (ds.take n)
  | _, _, 0, _ => .nil
  | _, _, _ + 1, .nil => .nil
  | _, _, n + 1, .cons r t => .cons r (DpAll.take n t)
theorem DpAll.drop : ∀ {xs : List V} {ds : List PyData} (n : Nat), DpAll K H xs ds → DpAll K H (xs.drop n) (ds.drop n)
  | _, _, 0, r => r
  | _, _, _ + 1, .nil => .nil
  | _, _, n + 1, .cons _ t => DpAll.drop n t
theorem DpAll.one (h : Dp K H v d) : DpAll K H [v] [d] := .cons h .nil
theorem DpAll.inv1 (h : DpAll K H xs [d]) : ∃ v, xs = [v] ∧ Dp K H v d := by
  cases h with
  | cons h t => cases t; exact ⟨_, rfl, h⟩
theorem Dp.tupOf (h : H a = some (.tup xs)) (hd : DpAll K H xs ds) : Dp K H (.ref a) (.tuple ds) := .tup (SqT.of h) hd
theorem Dp.lstOf (h : H a = some (.lst xs)) (hd : DpAll K H xs ds) : Dp K H (.ref a) (.list ds) := .lst (SqL.of h) hd
/-! ### types of data -/
def tyD : PyData → String
  | .none => "NoneType"
  | .bool _ => "bool"
  | .int _ => "int"
  | .str _ => "str"
  | .list _ => "list"
  | .tuple _ => "tuple"
  | .dict _ => "dict"
theorem Dp.ty (h : Dp K H v d) : TyX K H v (.type (tyD d)) := by
  cases h with
  | non => exact .base .non
  | bl b => exact .base (.bl b)
  | int i => exact .base (.int i)
  | str x => exact .base (.str x)
  | lst h1 h2 =>
    rcases h1 with (h1 | ⟨o, h1⟩) | ⟨o, its, n, h1, h3, _⟩
    · exact .base (.lst h1)
    · exact .base (.frz h1)
    · exact .kList h1 h3
  | tup h1 h2 =>
    rcases h1 with (h1 | ⟨o, h1⟩) | ⟨o, its, n, h1, h3, _⟩
    · exact .base (.tup h1)
    · exact .fTuple h1
    · exact .kTuple h1 h3
/-- isinstance of a built-in type, by names -/
def isTy (t c : String) : Bool := t == c || (t == "bool" && c == "int")
theorem kit_tab : ∀ t ∈ ["NoneType", "bool", "int", "str", "list", "tuple", "dict"], ∀ c ∈ ["bool", "int", "str", "list", "tuple", "dict"], kitB t c = some (isTy t c) := by decide +kernel
theorem tyD_mem (d : PyData) : tyD d ∈ ["NoneType", "bool", "int", "str", "list", "tuple", "dict"] := by cases d <;> simp [tyD]
theorem kit_d (d : PyData) {c : String} (h : c ∈ ["bool", "int", "str", "list", "tuple", "dict"]) : PySem.W.kitOne K (.type (tyD d)) (.type c) = some (isTy (tyD d) c) := kit_ty (kit_tab _ (tyD_mem d) _ h)
theorem kit_t {t c : String} (ht : t ∈ ["NoneType", "bool", "int", "str", "list", "tuple", "dict"]) (h : c ∈ ["bool", "int", "str", "list", "tuple", "dict"]) : PySem.W.kitOne K (.type t) (.type c) = some (isTy t c) := kit_ty (kit_tab _ ht _ h)
end
section
variable {K : PySem.W.Frag} {H : Hp} {v : V}
theorem TyX.int_inv (h : TyX K H v (.type "int")) : ∃ i, v = .int i := by
  generalize e : Value.type "int" = t at h
  cases h with
  | base h => cases h <;> first | exact ⟨_, rfl⟩ | (simp at e)
  | _ => simp at e
end
/-! ### isinstance of data -/
section
variable {X : Cx}
/-- isinstance(x, T): T a built-in type's name; x a datum, or a thing of a known type -/
def rIsD (K : PySem.W.Frag) : List V → Hp → VK → Prop := fun xs H Q => ∃ (x : V) (t c : String), xs = [x, .ty c] ∧ TyX K H x (.type t) ∧ t ∈ ["NoneType", "bool", "int", "str", "list", "tuple", "dict"] ∧ c ∈ ["bool", "int", "str", "list", "tuple", "dict"] ∧ Q (.bl (isTy t c)) H
theorem call_isD : CallR X (.builtin "isinstance") (rIsD X.K) := by
  intro pins s σ H xs us Q I r h
  obtain ⟨x, t, c, rfl, ty, ht, hc, q⟩ := h
  exact call_isi pins s σ H _ us Q I r ⟨x, .ty c, .type t, .type c, isTy t c, rfl, .ty c, ty, kit_t ht hc, q⟩
end
section
variable {X : Cx}
def rIsTD (K : PySem.W.Frag) : List V → Hp → VK → Prop := fun xs H Q => ∃ (x : V) (tp : Addr) (cs : List String) (t : String), xs = [x, .ref tp] ∧ H tp = some (.tup (cs.map V.ty)) ∧ TyX K H x (.type t) ∧ t ∈ ["NoneType", "bool", "int", "str", "list", "tuple", "dict"] ∧
  (∀ c ∈ cs, c ∈ ["bool", "int", "str", "list", "tuple", "dict"]) ∧ Q (.bl (cs.any (isTy t))) H
theorem kitAny_t {K : PySem.W.Frag} {t : String} (ht : t ∈ ["NoneType", "bool", "int", "str", "list", "tuple", "dict"]) : ∀ {cs : List String}, (∀ c ∈ cs, c ∈ ["bool", "int", "str", "list", "tuple", "dict"]) → PySem.W.kitAny K (.type t) (cs.map Value.type) = some (cs.any (isTy t))
  | [], _ => rfl
  | c :: cs, h => by
    rw [List.map_cons, List.any_cons]
    refine kitAny_cons (kit_t ht (h c (by simp))) (fun e => ?_) fun e => by rw [e, Bool.true_or]
    rw [e, Bool.false_or]
    exact kitAny_t ht fun x hx => h x (List.mem_cons_of_mem c hx)
theorem clsv_map : ∀ cs : List String, Paired ClsV (cs.map V.ty) (cs.map Value.type)
  | [] => .nil
  | c :: cs => .cons (.ty c) (clsv_map cs)
theorem call_isTDK (K : PySem.W.Frag) (hK : X.K = K := by rfl) : CallR X (.builtin "isinstance") (rIsTD K) := by
  subst hK
  intro pins s σ H xs us Q I r h
  obtain ⟨x, tp, cs, t, rfl, hp, ty, ht, hc, q⟩ := h
  exact call_isiT pins s σ H _ us Q I r ⟨x, tp, _, .type t, _, _, rfl, hp, clsv_map cs, ty, kitAny_t ht hc, q⟩
end
/-! ### the rules with the written part named -/
section
variable {X : Cx} {a b e o : Expr} {ta tb te to : TE} {pos : Pos}
theorem ix_listK (K : PySem.W.Frag) (hK : X.K = K := by rfl) : IxR X (rIxL K) := by subst hK; exact ix_list
theorem ix_tupK (K : PySem.W.Frag) (hK : X.K = K := by rfl) : IxR X (rIxT K) := by subst hK; exact ix_tup
theorem ix_seqK (K : PySem.W.Frag) (hK : X.K = K := by rfl) : IxR X (rIx K) := by subst hK; exact ix_seq
theorem sl_listK (K : PySem.W.Frag) (hK : X.K = K := by rfl) : SlR X (rSlL K) := by subst hK; exact sl_list
theorem sl_tupK (K : PySem.W.Frag) (hK : X.K = K := by rfl) : SlR X (rSlA K) := by subst hK; exact sl_tupA
theorem op_catK (K : PySem.W.Frag) (hK : X.K = K := by rfl) : OpR X (binaryOp .Add) (rCatA K) := by subst hK; exact op_catA
theorem op_eqDK (K : PySem.W.Frag) (hu : X.A.units + 65 < cLine) (hK : X.K = K := by rfl) : OpR X (compareOp .Eq) (rEqD K) := by subst hK; exact op_eqD (by omega)
theorem op_neDK (K : PySem.W.Frag) (hu : X.A.units + 65 < cLine) (hK : X.K = K := by rfl) : OpR X (compareOp .NotEq) (rNeD K) := by subst hK; exact op_neD (by omega)
theorem op_inTDK (K : PySem.W.Frag) (hu : X.A.units + 65 < cLine) (hK : X.K = K := by rfl) : OpR X (compareOp .In) (rInTD K) := by subst hK; exact op_inTD hu
theorem op_notInTDK (K : PySem.W.Frag) (hu : X.A.units + 65 < cLine) (hK : X.K = K := by rfl) : OpR X (compareOp .NotIn) (rNotInTD K) := by subst hK; exact op_notInTD hu
theorem op_inDK (K : PySem.W.Frag) (hu : X.A.units + 65 < cLine) (hK : X.K = K := by rfl) : OpR X (compareOp .In) (rInD K) := by subst hK; exact op_inD hu
theorem op_notInDK (K : PySem.W.Frag) (hu : X.A.units + 65 < cLine) (hK : X.K = K := by rfl) : OpR X (compareOp .NotIn) (rNotInD K) := by subst hK; exact op_notInD hu
theorem op_in_seqK (K : PySem.W.Frag) (hK : X.K = K := by rfl) : OpR X (compareOp .In) (rIn K false) := by subst hK; exact op_in_seq
theorem op_notIn_seqK (K : PySem.W.Frag) (hK : X.K = K := by rfl) : OpR X (compareOp .NotIn) (rIn K true) := by subst hK; exact op_notIn_seq
def rLenY (K : PySem.W.Frag) : List V → Hp → VK → Prop := fun xs H Q => ∃ x n, xs = [x] ∧ LenV K x H n ∧ Q (.int n) H
theorem call_lenK (K : PySem.W.Frag) (hK : X.K = K := by rfl) : CallR X (.builtin "len") (rLenY K) := by subst hK; exact call_len
theorem call_isDK (K : PySem.W.Frag) (hK : X.K = K := by rfl) : CallR X (.builtin "isinstance") (rIsD K) := by subst hK; exact call_isD
theorem call_isiK1 (K : PySem.W.Frag) (hK : X.K = K := by rfl) : CallR X (.builtin "isinstance") (rIsi K) := by subst hK; exact call_isi
theorem call_isiTK (K : PySem.W.Frag) (hK : X.K = K := by rfl) : CallR X (.builtin "isinstance") (rIsiT K) := by subst hK; exact call_isiT
def rTupOf (K : PySem.W.Frag) : List V → Hp → VK → Prop := fun xs H Q => ∃ p ys, xs = [.ref p] ∧ ((SqL K H p ys ∧ ∀ l, H l = none → Q (.ref l) (upd H l (.tup ys))) ∨ (SqT K H p ys ∧ Q (.ref p) H))
theorem call_tupK (K : PySem.W.Frag) (hK : X.K = K := by rfl) : CallR X (.type "tuple") (rTupOf K) := by subst hK; exact call_tuple_of
def rLstOf (K : PySem.W.Frag) : List V → Hp → VK → Prop := fun xs H Q => ∃ p ys, xs = [.ref p] ∧ (SqL K H p ys ∨ SqT K H p ys) ∧ ∀ l, H l = none → Q (.ref l) (upd H l (.lst ys))
theorem call_lstK (K : PySem.W.Frag) (hK : X.K = K := by rfl) : CallR X (.type "list") (rLstOf K) := by subst hK; exact call_list_of
theorem cr_allK (K : PySem.W.Frag) (hc : X.calm = true) (hK : X.K = K := by rfl) : CallR X (.builtin "all") (rAll K) := by subst hK; exact cr_all hc
theorem cr_anyK (K : PySem.W.Frag) (hc : X.calm = true) (hK : X.K = K := by rfl) : CallR X (.builtin "any") (rAny K) := by subst hK; exact cr_any hc
theorem cr_sumK (K : PySem.W.Frag) (hc : X.calm = true) (hK : X.K = K := by rfl) : CallR X (.builtin "sum") (rSum K) := by subst hK; exact cr_sum hc
theorem pi_listK (K : PySem.W.Frag) {tg l : Expr} {tl : TE} (hl : PE X l tl) (hK : X.K = K := by rfl) : PI X tg l (iList K tl) := by subst hK; exact pi_list hl
theorem pi_tupK (K : PySem.W.Frag) {tg l : Expr} {tl : TE} (hl : PE X l tl) (hK : X.K = K := by rfl) : PI X tg l (iTup K tl) := by subst hK; exact pi_tup hl
theorem pg_tupK (K : PySem.W.Frag) {es : List Expr} {k : Nat} {t : TGs} {n : Nat} (hc : X.calm = true) (h : PGs X es t)
    (hn : (assignEach es X.env).length = n := by rfl) (hst : (assignEach es X.env).findIdx? (·.1) = none := by rfl) (hK : X.K = K := by rfl) : PG X (.Tuple es k pos) (gTup K n t) := by subst hK; exact pg_tup hc h hn hst
theorem pe_fldK (K : PySem.W.Frag) {f : Str} (he : PE X e ta) (hb : attributeBase e f X.env (eval e X.env) = eval e X.env) (hK : X.K = K := by rfl) : PE X (.Attribute e f pos) (tFld K ta f) := by subst hK; exact pe_fld he hb
theorem ps_fldK (K : PySem.W.Frag) {value : Expr} {tv : TE} {f : Str} {pos' : Pos} (ha : PE X o ta) (hv : PE X value tv) (hs : swapsWith value (some (.Attribute o f pos')) pos.line X.env = pure false) (hK : X.K = K := by rfl) : PS X (.Assign [.Attribute o f pos'] value pos) (sFld K ta tv f) := by
  subst hK; exact ps_fld ha hv hs
theorem pe_bmK (K : PySem.W.Frag) {es : List Expr} {t : TA} {name : Str} {apos cpos : Pos} {T id : String} {r : V → List V → Hp → VK → Prop} (pa : PlainAttrs T) (slot : Slot T name id) (hty : typeOf (.builtin id) = pure (.type "method_descriptor")) (hm : MtR X id r) (ho : PE X o to) (ha : PA X (e :: es) t)
    (hK : X.K = K := by rfl) (h : PE X o to → PA X (e :: es) t → PE X (.Call (.Attribute o name apos) (e :: es) [] cpos) (tBM X.K T r to t) := by intro h1 h2; exact pe_bm (by assumption) (by assumption) (by assumption) (by assumption) h1 h2) : PE X (.Call (.Attribute o name apos) (e :: es) [] cpos) (tBM K T r to t) := by
  subst hK; exact h ho ha
end
end L2

namespace L2
open PySem PySem.Spec PyProof.Rows
/-! ### what a reading evaluates to, as data -/
theorem line_of {n : Nat} (h : n ≤ 100000) : n ≤ sizeLine := Nat.le_trans h (by decide)
theorem line_lt {n : Nat} (h : n < 100000) : n < sizeLine := Nat.lt_of_lt_of_le h (by decide)
def Gv (K : PySem.W.Frag) (te : TE) (σ : St) (H : Hp) (d : PyData) : Prop := ∀ H1, Same H H1 → ∀ Q : VK, (∀ v H2, Same H1 H2 → Dp K H2 v d → Q v H2) → te σ H1 Q
def Gs (K : PySem.W.Frag) (ta : TA) (σ : St) (H : Hp) (ds : List PyData) : Prop := ∀ H1, Same H H1 → ∀ Q : List V → Hp → Prop, (∀ vs H2, Same H1 H2 → DpAll K H2 vs ds → Q vs H2) → ta σ H1 Q
/-- a list of its own: new -/
def Gl1 (K : PySem.W.Frag) (te : TE) (σ : St) (H : Hp) (ds : List PyData) : Prop := ∀ H1, Same H H1 → ∀ Q : VK, (∀ p xs H2, H1 p = none → Same H1 H2 → H2 p = some (.lst xs) → DpAll K H2 xs ds → Q (.ref p) H2) → te σ H1 Q
/-- a test -/
def Gb (tt : TT) (σ : St) (H : Hp) (b : Bool) : Prop := ∀ H1, Same H H1 → ∀ Q : Bool → Hp → Prop, (∀ H2, Same H1 H2 → Q b H2) → tt σ H1 Q
section
variable {K : PySem.W.Frag} {σ : St} {H H' : Hp} {ta tb te : TE} {tas : TA} {x y z v : V} {d d1 d2 : PyData} {ds : List PyData}
theorem Gv.mono (h : Gv K te σ H d) (s : Same H H') : Gv K te σ H' d := fun H1 s1 Q q => h H1 (s.trans s1) Q q
theorem Gs.mono (h : Gs K tas σ H ds) (s : Same H H') : Gs K tas σ H' ds := fun H1 s1 Q q => h H1 (s.trans s1) Q q
theorem gv_var {i : Nat} (h : σ[i]? = some (some v)) (hd : Dp K H v d) : Gv K (tVar i) σ H d := fun H1 s1 Q q => ⟨v, h, q v H1 (Same.refl H1) (s1.dp hd)⟩
theorem gv_varI {i : Nat} {n : Int} (h : σ[i]? = some (some (.int n))) : Gv K (tVar i) σ H (.int n) := gv_var h (.int n)
theorem gv_varS {i : Nat} {n : Str} (h : σ[i]? = some (some (.str n))) : Gv K (tVar i) σ H (.str n) := gv_var h (.str n)
theorem gv_varB {i : Nat} {n : Bool} (h : σ[i]? = some (some (.bl n))) : Gv K (tVar i) σ H (.bool n) := gv_var h (.bl n)
theorem gv_varN {i : Nat} (h : σ[i]? = some (some .non)) : Gv K (tVar i) σ H .none := gv_var h .non
theorem gv_c (hd : ∀ H, Dp K H v d) : Gv K (tC v) σ H d := fun H1 _ Q q => q v H1 (Same.refl H1) (hd H1)
theorem gv_int {i : Int} : Gv K (tC (.int i)) σ H (.int i) := gv_c fun _ => .int i
theorem gv_str {i : Str} : Gv K (tC (.str i)) σ H (.str i) := gv_c fun _ => .str i
theorem gv_bl {i : Bool} : Gv K (tC (.bl i)) σ H (.bool i) := gv_c fun _ => .bl i
theorem gv_non : Gv K (tC .non) σ H .none := gv_c fun _ => .non
theorem gs_nil : Gs K tNil σ H [] := fun H1 _ Q q => q [] H1 (Same.refl H1) .nil
theorem gs_cons (h1 : Gv K te σ H d) (h2 : Gs K tas σ H ds) : Gs K (tCons te tas) σ H (d :: ds) := fun H1 s1 Q q =>
  h1 H1 s1 _ fun v H2 s2 hv => h2 H2 (s1.trans s2) _ fun vs H3 s3 hvs => q (v :: vs) H3 (s2.trans s3) (.cons (s3.dp hv) hvs)
theorem gv_tup (h : Gs K tas σ H ds) (hl : ds.length ≤ 100000) : Gv K (tTup tas) σ H (.tuple ds) := fun H1 s1 Q q =>
  h H1 s1 _ fun vs H2 s2 hvs => ⟨line_of (by rw [hvs.length]; exact hl), fun p hp => q (.ref p) _ (s2.add hp) (.tupOf upd_same ((Same.new hp).dpAll hvs))⟩
theorem gv_lst (h : Gs K tas σ H ds) (hl : ds.length ≤ 100000) : Gv K (tLst tas) σ H (.list ds) := fun H1 s1 Q q =>
  h H1 s1 _ fun vs H2 s2 hvs => ⟨line_of (by rw [hvs.length]; exact hl), fun p hp => q (.ref p) _ (s2.add hp) (.lstOf upd_same ((Same.new hp).dpAll hvs))⟩
theorem gl_lst (h : Gs K tas σ H ds) (hl : ds.length ≤ 100000) : Gl1 K (tLst tas) σ H ds := fun H1 s1 Q q =>
  h H1 s1 _ fun vs H2 s2 hvs => ⟨line_of (by rw [hvs.length]; exact hl), fun p hp => q p vs _ (s2.free hp) (s2.add hp) upd_same ((Same.new hp).dpAll hvs)⟩
theorem Gl1.gv (h : Gl1 K te σ H ds) : Gv K te σ H (.list ds) := fun H1 s1 Q q => h H1 s1 Q fun p xs H2 hp s2 h2 hd => q (.ref p) H2 s2 (.lstOf h2 hd)
theorem gv_i0 {g : Int → Int → V} {i j : Int} (ha : Gv K ta σ H (.int i)) (hb : Gv K tb σ H (.int j)) (hg : ∀ H, Dp K H (g i j) d) : Gv K (tOp (rI0 g) ta tb) σ H d := fun H1 s1 Q q =>
  ha H1 s1 _ fun v H2 s2 hv => hb H2 (s1.trans s2) _ fun u H3 s3 hu => ⟨i, j, hv.int_inv, hu.int_inv, q _ H3 (s2.trans s3) (hg H3)⟩
theorem gv_i {C : Int → Int → Prop} {g : Int → Int → V} {i j : Int} (ha : Gv K ta σ H (.int i)) (hb : Gv K tb σ H (.int j)) (hc : C i j) (hg : ∀ H, Dp K H (g i j) d) : Gv K (tOp (rI C g) ta tb) σ H d := fun H1 s1 Q q =>
  ha H1 s1 _ fun v H2 s2 hv => hb H2 (s1.trans s2) _ fun u H3 s3 hu => ⟨i, j, hv.int_inv, hu.int_inv, hc, q _ H3 (s2.trans s3) (hg H3)⟩
theorem gv_neg {i : Int} (ha : Gv K ta σ H (.int i)) : Gv K (tUn (rU fun i => .int (-i)) ta) σ H (.int (-i)) := fun H1 s1 Q q =>
  ha H1 s1 _ fun v H2 s2 hv => ⟨i, hv.int_inv, q _ H2 s2 (.int _)⟩
theorem gv_ixL {i : Int} (ha : Gv K ta σ H (.list ds)) (hb : Gv K tb σ H (.int i)) (h : atI ds i = some d) : Gv K (tOp (rIxL K) ta tb) σ H d := fun H1 s1 Q q =>
  ha H1 s1 _ fun v H2 s2 hv => hb H2 (s1.trans s2) _ fun u H3 s3 hu => by
    obtain ⟨a, xs, rfl, hq, hx⟩ := (s3.dp hv).lst_inv
    have hl := hx.length
    unfold atI at h
    cases e : ixN ds.length i with
    | none => rw [e] at h; cases h
    | some j =>
      rw [e] at h
      obtain ⟨w, h1, h2⟩ := hx.get (i := j) h
      exact ⟨a, xs, i, w, rfl, hu.int_inv, hq, by unfold atI; rw [hl, e]; exact h1, q w H3 (s2.trans s3) h2⟩
theorem gv_ixT {i : Int} (ha : Gv K ta σ H (.tuple ds)) (hb : Gv K tb σ H (.int i)) (h : atI ds i = some d) : Gv K (tOp (rIxT K) ta tb) σ H d := fun H1 s1 Q q =>
  ha H1 s1 _ fun v H2 s2 hv => hb H2 (s1.trans s2) _ fun u H3 s3 hu => by
    obtain ⟨a, xs, rfl, hq, hx⟩ := (s3.dp hv).tup_inv
    have hl := hx.length
    unfold atI at h
    cases e : ixN ds.length i with
    | none => rw [e] at h; cases h
    | some j =>
      rw [e] at h
      obtain ⟨w, h1, h2⟩ := hx.get (i := j) h
      exact ⟨a, xs, i, w, rfl, hu.int_inv, hq, by unfold atI; rw [hl, e]; exact h1, q w H3 (s2.trans s3) h2⟩
/-- the value, and what follows -/
theorem Gv.go {Q : VK} (h : Gv K te σ H d) (q : ∀ v H2, Same H H2 → Dp K H2 v d → Q v H2) : te σ H Q := h H (Same.refl H) Q q
theorem Gl1.go {Q : VK} (h : Gl1 K te σ H ds) (q : ∀ p xs H2, H p = none → Same H H2 → H2 p = some (.lst xs) → DpAll K H2 xs ds → Q (.ref p) H2) : te σ H Q := h H (Same.refl H) Q q
theorem Gs.go {Q : List V → Hp → Prop} (h : Gs K tas σ H ds) (q : ∀ vs H2, Same H H2 → DpAll K H2 vs ds → Q vs H2) : tas σ H Q := h H (Same.refl H) Q q
end
/-- len of a list or a tuple -/
theorem Dp.seq {K : PySem.W.Frag} {H : Hp} {v : V} {ds : List PyData} {d : PyData} (h : Dp K H v d) (e : d = .list ds ∨ d = .tuple ds) : ∃ a xs, v = .ref a ∧ (d = .list ds ∧ SqL K H a xs ∨ d = .tuple ds ∧ SqT K H a xs) ∧ DpAll K H xs ds := by
  rcases e with rfl | rfl
  · obtain ⟨a, xs, rfl, h1, h2⟩ := h.lst_inv
    exact ⟨a, xs, rfl, .inl ⟨rfl, h1⟩, h2⟩
  · obtain ⟨a, xs, rfl, h1, h2⟩ := h.tup_inv
    exact ⟨a, xs, rfl, .inr ⟨rfl, h1⟩, h2⟩
theorem Dp.len {K : PySem.W.Frag} {H : Hp} {v : V} {ds : List PyData} {d : PyData} (h : Dp K H v d) (e : d = .list ds ∨ d = .tuple ds) : LenV K v H ds.length := by
  obtain ⟨a, xs, rfl, h1, h2⟩ := h.seq e
  rw [← h2.length]
  rcases h1 with ⟨_, h1⟩ | ⟨_, h1⟩
  · exact .inl ⟨xs, h1, rfl⟩
  · exact .inr ⟨xs, h1, rfl⟩
theorem Dp.ix {K : PySem.W.Frag} {H : Hp} {v : V} {ds : List PyData} {d e : PyData} {i : Nat} {Q : VK} (h : Dp K H v d) (hd : d = .list ds ∨ d = .tuple ds) (hi : ds[i]? = some e) (q : ∀ u, Dp K H u e → Q u H) : rIx K v (.int (i : Nat)) H Q := by
  obtain ⟨a, xs, rfl, h1, h2⟩ := h.seq hd
  obtain ⟨u, hu1, hu2⟩ := h2.get hi
  rcases h1 with ⟨_, h1⟩ | ⟨_, h1⟩
  · exact .inl ⟨a, xs, _, u, rfl, rfl, h1, atI_nat hu1, q u hu2⟩
  · exact .inr (.inl ⟨a, xs, _, u, rfl, rfl, h1, atI_nat hu1, q u hu2⟩)
/-- == of plain values, or of data -/
def rEqA (K : PySem.W.Frag) : R2 := fun x y H Q => rEq x y H Q ∨ rEqD K x y H Q
def rNeA (K : PySem.W.Frag) : R2 := fun x y H Q => rNe x y H Q ∨ rNeD K x y H Q
theorem op_eqAK {X : Cx} (K : PySem.W.Frag) (hu : X.A.units + 65 < cLine) (hK : X.K = K := by rfl) : OpR X (compareOp .Eq) (rEqA K) := op_eq.or (op_eqDK K hu hK)
theorem op_neAK {X : Cx} (K : PySem.W.Frag) (hu : X.A.units + 65 < cLine) (hK : X.K = K := by rfl) : OpR X (compareOp .NotEq) (rNeA K) := op_ne.or (op_neDK K hu hK)
end L2

namespace L2
open PySem PySem.Spec PyProof.Rows
/-! ### a + b by the class's own def -/
section
variable {X : Cx} {CX : CXT} {k : Nat} {f C : Addr} {fd : FuncData} {ps : List Str} {sp : Sp} {E : XK}
def rAddO (C : Addr) (sp : Sp) (E : XK) : R2 := fun x y H Q => ∃ a dx fs b dx' fs', x = .ref a ∧ y = .ref b ∧ H a = some (.ins C dx fs) ∧ H b = some (.ins C dx' fs') ∧ sp [.ref a, .ref b] H (fun v H' => (∃ c, v = .ref c) ∧ Q v H') E
theorem op_addO (hs : Spc X.K C "__add__" f) (hc : PySem.W.selfFirst X.K C = true) (F : FnOk X.prog X.w X.K X.mg X.base CX k f fd ps sp) (hr : Room k X.A) (hb : Binds X.K fd ps []) (hx : Passes CX X E) : OpR X (binaryOp .Add) (rAddO C sp E) := by
  intro pins s σ H x y v u Q I rx ry h
  obtain ⟨a, dx, fs, b, dx', fs', rfl, rfl, e, e', h⟩ := h
  cases rx
  cases ry
  obtain ⟨od, J⟩ := ins_at I e
  obtain ⟨od', J'⟩ := ins_at I e'
  obtain ⟨m, F0⟩ := I.fr
  refine PySem.W.binop_K F0 I.ok.mod.kin J J'.type hc hs.at_ hs.fn (wpAny_mono (run_fn F hr hb .nil hx I (vs := [.ref a, .ref b]) (us := [.ref a, .ref b]) (.cons rfl (.cons rfl .nil)) h) (fun v s' q => ?_) fun _ _ z => z)
  obtain ⟨v', H', I', rv, ⟨c, rfl⟩, q⟩ := q
  cases rv
  exact ⟨.ref c, H', I', rfl, q⟩
end
/-- a slice's part left out -/
theorem po_no {X : Cx} : PO X none (fun _ H Q => Q none H) := po_none
/-! ### tuples of data: t + u, t[:n], t[n:] -/
section
variable {K : PySem.W.Frag} {H : Hp} {Q : VK} {v u : V} {ds es : List PyData}
theorem catT_go (hv : Dp K H v (.tuple ds)) (hu : Dp K H u (.tuple es)) (hl : ds.length + es.length ≤ 100000) (q : ∀ w H', Same H H' → Dp K H' w (.tuple (ds ++ es)) → Q w H') : rCatA K v u H Q := by
  obtain ⟨a, xs, rfl, ha, hxs⟩ := hv.tup_inv
  obtain ⟨b, ys, rfl, hb, hys⟩ := hu.tup_inv
  have e1 := hxs.length
  have e2 := hys.length
  refine ⟨a, b, xs, ys, rfl, rfl, ha, hb, line_of (by omega), fun e => ?_, fun _ e => ?_, fun _ _ p hp => ?_⟩
  · subst e
    cases hxs
    exact q _ H (Same.refl H) hu
  · subst e
    cases hys
    rw [List.append_nil] at q
    exact q _ H (Same.refl H) hv
  · exact q _ _ (Same.new hp) (.tupOf upd_same (((Same.new hp).dpAll hxs).append ((Same.new hp).dpAll hys)))
theorem slT_go {lo hi : Option Int} {fs : List PyData} (hv : Dp K H v (.tuple ds)) (hf : (ds.drop (HT.sIx ds.length 0 lo)).take (HT.sIx ds.length ds.length hi - HT.sIx ds.length 0 lo) = fs) (q : ∀ w H', Same H H' → Dp K H' w (.tuple fs) → Q w H') : rSlA K v lo hi H Q := by
  obtain ⟨a, xs, rfl, ha, hxs⟩ := hv.tup_inv
  have e1 := hxs.length
  refine ⟨a, xs, rfl, ha, fun e => ?_, fun _ p hp => ?_⟩
  · have : fs = ds := by
      rw [← hf, ← e1, e.1, e.2]
      simp [e1]
    rw [this] at q
    exact q _ H (Same.refl H) hv
  · refine q _ _ (Same.new hp) (.tupOf upd_same ?_)
    rw [← hf]
    unfold cutV
    rw [e1]
    exact (Same.new hp).dpAll ((hxs.drop _).take _)
theorem slT_to {n : Nat} {z : Int} (hv : Dp K H v (.tuple ds)) (e : z = (n : Int)) (q : ∀ w H', Same H H' → Dp K H' w (.tuple (ds.take n)) → Q w H') : rSlA K v none (some z) H Q := by
  subst e
  refine slT_go hv ?_ q
  rw [HT.sIx_none, HT.sIx_nat, List.drop_zero, Nat.sub_zero]
  rcases Nat.le_total n ds.length with h | h
  · rw [Nat.min_eq_left h]
  · rw [Nat.min_eq_right h, List.take_length, List.take_of_length_le h]
theorem slT_from {n : Nat} {z : Int} (hv : Dp K H v (.tuple ds)) (e : z = (n : Int)) (q : ∀ w H', Same H H' → Dp K H' w (.tuple (ds.drop n)) → Q w H') : rSlA K v (some z) none H Q := by
  subst e
  refine slT_go hv ?_ q
  rw [HT.sIx_none, HT.sIx_nat]
  rcases Nat.le_total n ds.length with h | h
  · rw [Nat.min_eq_left h, List.take_of_length_le (by rw [List.length_drop]; exact Nat.le_refl _)]
  · rw [Nat.min_eq_right h, List.drop_of_length_le h, List.drop_length]; simp
end
/-! ### texts joined -/
def rJoin (K : PySem.W.Frag) : V → List V → Hp → VK → Prop := fun x xs H Q => ∃ a p, ∃ ys : List Str, x = .str a ∧ xs = [.ref p] ∧ (SqL K H p (ys.map V.str) ∨ SqT K H p (ys.map V.str)) ∧ (ys.map (·.length)).sum + ys.length * a.length ≤ 16777216 ∧ Q (.str (Txt.join a ys)) H
theorem pe_joinK {X : Cx} {o e : Expr} {to te : TE} (K : PySem.W.Frag) {apos pos : Pos} (ho : PE X o to) (he : PE X e te) (hK : X.K = K := by rfl) (hs : starEach [e] X.env = [(false, eval e X.env)] := by rfl) (hbase : attributeBase o "join" X.env (eval o X.env) = eval o X.env := by rfl) (hline : (apos.endLine == pos.line) = true := by rfl) :
    PE X (.Call (.Attribute o "join" apos) [e] [] pos) (tM1 (rJoin K) to te) := by subst hK; exact pe_join ho he hs hbase hline
end L2

namespace L2
open PySem PySem.Spec PyProof.Rows
/-- the turns of enumerate(list) -/
theorem for_enumL {K : PySem.W.Frag} {a : Addr} {xs : List V} {g : TG} {tb : TS} {D : Ends} {σ : St} {H : Hp} (Pv : Nat → St → Hp → Prop) (h0 : Pv 0 σ H) (hl : ∀ i σ H, i ≤ xs.length → Pv i σ H → SqL K H a xs)
    (hs : ∀ i x T σ H, xs[i]? = some x → Pv i σ H → H T = none → g (.ref T) σ (upd H T (.tup [.int (i : Nat), x])) fun σ2 H2 => tb { D with nx := Pv (i + 1), ct := Pv (i + 1), bk := D.nx } σ2 H2) (hd : ∀ σ H, Pv xs.length σ H → D.nx σ H) :
    ∃ W : Nat → Nat → St → Hp → Prop, (∃ m, W 0 m σ H) ∧ ∀ i m σ H, W i m σ H →
      ((Ite K a).stop i H ∧ D.nx σ H) ∨ ((Ite K a).go i H ∧ ∃ N : St → Hp → Prop, (∀ σ' H', N σ' H' → ∃ m', m' < m ∧ W (i + 1) m' σ' H') ∧ ∀ x H', (Ite K a).yld i H x H' → g x σ H' fun σ2 H2 => tb { D with nx := N, ct := N, bk := D.nx } σ2 H2) := by
  refine ⟨fun i m σ H => m = xs.length - i ∧ i ≤ xs.length ∧ Pv i σ H, ⟨xs.length, by simp, Nat.zero_le _, h0⟩, ?_⟩
  rintro i m σ H ⟨rfl, hi, p⟩
  have q := hl i σ H hi p
  by_cases hlt : i < xs.length
  · refine .inr ⟨⟨xs, xs[i], q, by simp [hlt]⟩, Pv (i + 1), fun σ' H' p' => ⟨xs.length - (i + 1), by omega, rfl, hlt, p'⟩, fun x H' y => ?_⟩
    obtain ⟨T, x', rfl, hT, rfl, hx⟩ := y
    exact hs i x' T σ H (hx xs q) p hT
  · have e : i = xs.length := by omega
    subst e
    exact .inl ⟨⟨xs, q, Nat.le_refl _⟩, hd σ H p⟩
/-! ### a list of anything != an empty one -/
def rNeE (K : PySem.W.Frag) : R2 := fun x y H Q => ∃ a b xs, x = .ref a ∧ y = .ref b ∧ SqL K H a xs ∧ SqL K H b [] ∧ Q (.bl (!xs.isEmpty)) H
theorem op_neE {X : Cx} (K : PySem.W.Frag) (hu : X.A.units + 65 < cLine) (hK : X.K = K := by rfl) : OpR X (compareOp .NotEq) (rNeE K) := by
  subst hK
  intro pins s σ H x y v u Q I rx ry h
  obtain ⟨a, b, xs, rfl, rfl, ha, hb, q⟩ := h
  obtain rfl : v = Value.ref a := rx
  obtain rfl : u = Value.ref b := ry
  obtain ⟨its, rv, pl, _⟩ := I.list ha
  obtain ⟨its2, rv2, pl2, _⟩ := I.list hb
  have e2 := rv2.length
  have e1 := rv.length
  obtain rfl : its2 = [] := List.length_eq_zero_iff.mp (by simpa using e2.symm)
  cases xs with
  | nil =>
    obtain rfl : its = [] := List.length_eq_zero_iff.mp (by simpa using e1.symm)
    refine PySem.SeqAt.RcNeAt.lists (e := fun _ => true) pl.isList pl2.isList rfl (by omega) (fun j h1 h2 => absurd h1 (by simp)) X.prog X.w _ _ ?_
    exact ⟨.bl _, H, I, rfl, q⟩
  | cons x xs =>
    refine PySem.SeqAt.RcNeAt.lists_lengths pl.isList pl2.isList ?_ (by omega) X.prog X.w _ _ ?_
    · have : its.length ≠ 0 := by rw [← e1]; simp
      simpa using this
    · exact ⟨.bl _, H, I, rfl, q⟩
theorem DpAll.snoc {K : PySem.W.Frag} {H : Hp} : ∀ {ys : List V} {ds : List PyData} {v : V} {d : PyData}, DpAll K H ys ds → Dp K H v d → DpAll K H (ys ++ [v]) (ds ++ [d]) := fun h1 h2 => h1.append (.one h2)
theorem immAll_take : ∀ {ds : List PyData} (n : Nat), immAll ds = true → immAll (ds.take n) = true
  | _, 0, _ => rfl
  | [], _ + 1, _ => rfl
  | d :: ds, n + 1, h => by
    simp only [immAll, Bool.and_eq_true] at h
    simp only [List.take_succ_cons, immAll, Bool.and_eq_true]
    exact ⟨h.1, immAll_take n h.2⟩
theorem immAll_get : ∀ {ds : List PyData} {n : Nat} {d : PyData}, immAll ds = true → ds[n]? = some d → imm d = true
  | [], _, _, _, e => by simp at e
  | d :: ds, 0, _, h, e => by
    simp only [immAll, Bool.and_eq_true] at h
    simp at e; subst e; exact h.1
  | d :: ds, n + 1, x, h, e => by
    simp only [immAll, Bool.and_eq_true] at h
    exact immAll_get (n := n) (d := x) h.2 (by simpa using e)
/-- [e(x) for x in l], data of each -/
theorem lcMap {K : PySem.W.Frag} {tl te : TE} {i : Nat} {σ : St} {H : Hp} {Q : VK} {l : Addr} {xs : List V} {ds : List PyData} (htl : ∀ Q : VK, Q (.ref l) H → tl σ H Q) (hl : SqL K H l xs) (hlen : ds.length = xs.length) (hz : xs.length < 100000) (hi : immAll ds = true)
    (hw : ∀ x, wipe ((wipe σ [i]).set i (some x)) [i] = wipe σ [i]) (each : ∀ (j : Nat) x d H', xs[j]? = some x → ds[j]? = some d → Same H H' → Gv K te ((wipe σ [i]).set i (some x)) H' d)
    (q : ∀ D ys H', H D = none → Same H H' → H' D = some (.lst ys) → DpAll K H' ys ds → Q (.ref D) H') : tLc (iList K tl) (gName i) tYes te [i] σ H Q := by
  refine htl _ ⟨l, rfl, ⟨_, hl⟩, fun D nD => ?_⟩
  have sl : ∀ {H' : Hp}, Same H H' → SqL K H' l xs := fun {H'} s => by
    rcases hl with (h | ⟨o, h⟩) | h
    · exact .inl (.inl (s _ _ h))
    · exact .inl (.inr ⟨o, s _ _ h⟩)
    · exact .inr h
  refine lc_list (K := K) (a := l) (xs := xs) (fun j H' => Same H H' ∧ ∃ ys, H' D = some (.lst ys) ∧ DpAll K H' ys (ds.take j)) ⟨Same.new nD, [], upd_same, .nil⟩ (fun j H' _ h => sl h.1) ?_ ?_
  · rintro j x H' hx ⟨s, ys, hD, hys⟩
    have hj : j < ds.length := by rw [hlen]; exact (List.getElem?_eq_some_iff.mp hx).1
    have hd := List.getElem?_eq_getElem hj
    refine ⟨hw x, ?_⟩
    refine Gv.go (each j x _ H' hx hd s) fun v H2 s2 hv => ⟨ys, s2 _ _ hD, ?_, ?_⟩
    · refine line_lt ?_
      rw [hys.length, List.length_take]; omega
    · have t : Tups H2 (upd H2 D (.lst (ys ++ [v]))) := Tups.mut (by rw [s2 _ _ hD]; trivial)
      refine ⟨(s.trans s2).mut nD, _, upd_same, ?_⟩
      rw [List.take_add_one, hd]
      exact (t.dpAll (immAll_take j hi) (s2.dpAll hys)).snoc (t.dp (immAll_get hi hd) hv)
  · rintro H' ⟨s, ys, hD, hys⟩
    rw [← hlen, List.take_length] at hys
    exact q D ys H' nD s hD hys
theorem SqL.same {K : PySem.W.Frag} {H H' : Hp} {l : Addr} {xs : List V} (hl : SqL K H l xs) (s : Same H H') : SqL K H' l xs := by
  rcases hl with (h | ⟨o, h⟩) | h
  · exact .inl (.inl (s _ _ h))
  · exact .inl (.inr ⟨o, s _ _ h⟩)
  · exact .inr h
/-- [g(x) for x in l if f(x)] -/
theorem lcFM {α : Type} {K : PySem.W.Frag} {tl te : TE} {tt : TT} {i : Nat} {σ : St} {H : Hp} {Q : VK} {l : Addr} (items : List α) (val g : α → V) (f : α → Bool) (htl : ∀ Q : VK, Q (.ref l) H → tl σ H Q) (hl : SqL K H l (items.map val)) (hz : items.length < 100000)
    (hw : ∀ x, wipe ((wipe σ [i]).set i (some x)) [i] = wipe σ [i])
    (each : ∀ (j : Nat) x H', items[j]? = some x → Same H H' → ∀ R : Bool → Hp → Prop, (∀ H2, Same H' H2 → R (f x) H2) → tt ((wipe σ [i]).set i (some (val x))) H' R)
    (each2 : ∀ (j : Nat) x H', items[j]? = some x → f x = true → Same H H' → ∀ R : VK, (∀ H2, Same H' H2 → R (g x) H2) → te ((wipe σ [i]).set i (some (val x))) H' R)
    (q : ∀ D H', H D = none → Same H H' → H' D = some (.lst ((items.filter f).map g)) → Q (.ref D) H') : tLc (iList K tl) (gName i) tt te [i] σ H Q := by
  refine htl _ ⟨l, rfl, ⟨_, hl⟩, fun D nD => ?_⟩
  refine lc_list (K := K) (a := l) (xs := items.map val) (fun j H' => Same H H' ∧ H' D = some (.lst (((items.take j).filter f).map g))) ⟨Same.new nD, upd_same⟩ (fun j H' _ h => hl.same h.1) ?_ ?_
  · rintro j x H' hx ⟨s, hD⟩
    rw [List.getElem?_map] at hx
    obtain ⟨y, hy, rfl⟩ := Option.map_eq_some_iff.mp hx
    have ht : items.take (j + 1) = items.take j ++ [y] := by rw [List.take_add_one, hy]; rfl
    refine ⟨hw _, ?_⟩
    refine each j y H' hy s _ fun H2 s2 => ?_
    by_cases hf : f y = true
    · rw [if_pos hf]
      refine each2 j y H2 hy hf (s.trans s2) _ fun H3 s3 => ⟨_, s3 _ _ (s2 _ _ hD), ?_, ((s.trans s2).trans s3).mut nD, ?_⟩
      · refine line_lt ?_
        rw [List.length_map]
        have h1 := List.length_filter_le f (items.take j)
        have h2 := List.length_take_le j items
        have h3 := List.length_take_le' j items
        omega
      · rw [upd_same, ht, List.filter_append, List.map_append]
        simp [hf]
    · rw [if_neg hf]
      refine ⟨s.trans s2, ?_⟩
      rw [s2 _ _ hD, ht, List.filter_append]
      simp [hf]
  · rintro H' ⟨s, hD⟩
    rw [List.length_map, List.take_length] at hD
    exact q D H' nD s hD
/-! ### one step at a time -/
theorem gName_app {i : Nat} {x : V} {σ : St} {H : Hp} {Q : St → Hp → Prop} : gName i x σ H Q = Q (σ.set i (some x)) H := rfl
theorem tAsg_app {te : TE} {g : TG} {D : Ends} {σ : St} {H : Hp} : tAsg te g D σ H = te σ H fun x H1 => g x σ H1 D.nx := rfl
theorem tSeq_app {t u : TS} {D : Ends} {σ : St} {H : Hp} : tSeq t u D σ H = t { D with nx := u D } σ H := rfl
theorem tRet_app {te : TE} {D : Ends} {σ : St} {H : Hp} : tRet te D σ H = te σ H D.rt := rfl
theorem tTup_app {ta : TA} {σ : St} {H : Hp} {Q : VK} : tTup ta σ H Q = ta σ H fun xs H1 => xs.length ≤ sizeLine ∧ ∀ p, H1 p = none → Q (.ref p) (upd H1 p (.tup xs)) := rfl
theorem tCons_app {te : TE} {ta : TA} {σ : St} {H : Hp} {Q : List V → Hp → Prop} : tCons te ta σ H Q = te σ H fun x H1 => ta σ H1 fun xs H2 => Q (x :: xs) H2 := rfl
end L2

namespace L2
open PySem PySem.Spec PyProof.Rows
/-- {k(x): g(x) for x in l if f(x)} -/
theorem dcFM {α : Type} {K : PySem.W.Frag} {tl tk te : TE} {tt : TT} {i : Nat} {σ : St} {H : Hp} {Q : VK} {l : Addr} (items : List α) (val g : α → V) (κ : α → Key) (f : α → Bool) (htl : ∀ Q : VK, Q (.ref l) H → tl σ H Q) (hl : SqL K H l (items.map val)) (hz : items.length < 100000)
    (hnd : ((items.filter f).map κ).Nodup) (hw : ∀ x, wipe ((wipe σ [i]).set i (some x)) [i] = wipe σ [i])
    (each : ∀ (j : Nat) x H', items[j]? = some x → Same H H' → ∀ R : Bool → Hp → Prop, (∀ H2, Same H' H2 → R (f x) H2) → tt ((wipe σ [i]).set i (some (val x))) H' R)
    (each1 : ∀ (j : Nat) x H', items[j]? = some x → f x = true → Same H H' → ∀ R : VK, (∀ H2, Same H' H2 → R (kV (κ x)) H2) → tk ((wipe σ [i]).set i (some (val x))) H' R)
    (each2 : ∀ (j : Nat) x H', items[j]? = some x → f x = true → Same H H' → ∀ R : VK, (∀ H2, Same H' H2 → R (g x) H2) → te ((wipe σ [i]).set i (some (val x))) H' R)
    (q : ∀ D H', H D = none → Same H H' → H' D = some (.dK ((items.filter f).map fun x => (κ x, g x))) → Q (.ref D) H') : tDc (iList K tl) (gName i) tt tk te [i] σ H Q := by
  refine htl _ ⟨l, rfl, ⟨_, hl⟩, fun D nD => ?_⟩
  have snoc : ∀ (ys : List α) (y : α), (ys.map κ ++ [κ y]).Nodup → putK (ys.map fun x => (κ x, g x)) (κ y) (g y) = ys.map (fun x => (κ x, g x)) ++ [(κ y, g y)] := by
    intro ys y h
    unfold putK
    rw [if_neg]
    intro h2
    obtain ⟨z, hz, e⟩ := List.any_eq_true.mp h2
    obtain ⟨x, hx, rfl⟩ := List.mem_map.mp hz
    have e : κ x = κ y := of_decide_eq_true e
    rw [List.nodup_append] at h
    exact h.2.2 _ (List.mem_map.mpr ⟨x, hx, rfl⟩) _ (List.mem_singleton.mpr rfl) e
  suffices h : ∃ W : Nat → Nat → Hp → Prop, (∃ m, W 0 m (upd H D (.dK []))) ∧ ∀ j m H', W j m H' →
      ((Itl K l).stop j H' ∧ Q (.ref D) H') ∨ ((Itl K l).go j H' ∧ ∃ Nx : Hp → Prop, (∀ H2, Nx H2 → ∃ m', m' < m ∧ W (j + 1) m' H2) ∧ ∀ x H2, (Itl K l).yld j H' x H2 → gName i x (wipe σ [i]) H2 fun σ2 H3 => wipe σ2 [i] = wipe σ [i] ∧ tt σ2 H3 fun b H4 =>
        if b = true then tk σ2 H4 fun y H5 => te σ2 H5 fun z H6 => ∃ kvs k, y = kV k ∧ H6 D = some (.dK kvs) ∧ kvs.length < sizeLine ∧ Nx (upd H6 D (.dK (putK kvs k z))) else Nx H4) from h
  let Pv : Nat → Hp → Prop := fun j H' => Same H H' ∧ H' D = some (.dK (((items.take j).filter f).map fun x => (κ x, g x)))
  refine ⟨fun j m H' => m = items.length - j ∧ j ≤ items.length ∧ Pv j H', ⟨items.length, by simp, Nat.zero_le _, Same.new nD, upd_same⟩, ?_⟩
  rintro j m H' ⟨rfl, hj, s, hD⟩
  have hl' := hl.same s
  by_cases hlt : j < items.length
  · have hy := List.getElem?_eq_getElem hlt
    refine .inr ⟨⟨_, _, hl', by rw [List.getElem?_map, hy]; rfl⟩, Pv (j + 1), fun H2 p => ⟨items.length - (j + 1), by omega, rfl, hlt, p⟩, ?_⟩
    rintro x H2 yl
    obtain ⟨rfl, hx⟩ := (show H2 = H' ∧ ∀ xs, SqL K H' l xs → xs[j]? = some x from yl)
    have hx := hx _ hl'
    rw [List.getElem?_map, hy] at hx
    cases hx
    have ht : items.take (j + 1) = items.take j ++ [items[j]] := by rw [List.take_add_one, hy]; rfl
    refine ⟨hw _, ?_⟩
    refine each j _ _ hy s _ fun H3 s3 => ?_
    by_cases hf : f items[j] = true
    · rw [if_pos hf]
      refine each1 j _ H3 hy hf (s.trans s3) _ fun H4 s4 => each2 j _ H4 hy hf ((s.trans s3).trans s4) _ fun H5 s5 => ⟨_, _, rfl, s5 _ _ (s4 _ _ (s3 _ _ hD)), ?_, (((s.trans s3).trans s4).trans s5).mut nD, ?_⟩
      · refine line_lt ?_
        rw [List.length_map]
        have h1 := List.length_filter_le f (items.take j)
        have h3 := List.length_take_le' j items
        omega
      · have nd : (((items.take j).filter f).map κ ++ [κ items[j]]).Nodup := by
          have e : ((items.take j).filter f).map κ ++ [κ items[j]] = ((items.take (j + 1)).filter f).map κ := by
            rw [ht, List.filter_append, List.map_append]; simp [hf]
          rw [e]
          have sub : ((items.take (j + 1)).filter f).map κ = ((items.filter f).map κ).take (((items.take (j + 1)).filter f).map κ).length := by
            have : items.filter f = (items.take (j + 1)).filter f ++ (items.drop (j + 1)).filter f := by rw [← List.filter_append, List.take_append_drop]
            rw [this, List.map_append, List.take_left]
          rw [sub]
          exact hnd.sublist (List.take_sublist _ _)
        rw [upd_same, snoc _ _ nd, ht, List.filter_append, List.map_append]
        simp [hf]
    · rw [if_neg hf]
      refine ⟨s.trans s3, ?_⟩
      rw [s3 _ _ hD, ht, List.filter_append]
      simp [hf]
  · have e : j = items.length := by omega
    subst e
    rw [List.take_length] at hD
    exact .inl ⟨⟨_, hl', by rw [List.length_map]; exact Nat.le_refl _⟩, q D H' nD s hD⟩
/-- the turns of d.values(), d locked -/
theorem for_valsD {d : Addr} {o : Obj} {kvs : List (Key × V)} {g : TG} {tb : TS} {D : Ends} {σ : St} {H : Hp} (Pv : Nat → St → Hp → Prop) (h0 : Pv 0 σ H) (hl : ∀ i σ H, i ≤ kvs.length → Pv i σ H → H d = some (.frz o (.dK kvs)))
    (hs : ∀ (i : Nat) k x σ H, kvs[i]? = some (k, x) → Pv i σ H → g x σ H fun σ2 H2 => tb { D with nx := Pv (i + 1), ct := Pv (i + 1), bk := D.nx } σ2 H2) (hd : ∀ σ H, Pv kvs.length σ H → D.nx σ H) :
    ∃ W : Nat → Nat → St → Hp → Prop, (∃ m, W 0 m σ H) ∧ ∀ i m σ H, W i m σ H →
      ((Itd d o kvs).stop i H ∧ D.nx σ H) ∨ ((Itd d o kvs).go i H ∧ ∃ N : St → Hp → Prop, (∀ σ' H', N σ' H' → ∃ m', m' < m ∧ W (i + 1) m' σ' H') ∧ ∀ x H', (Itd d o kvs).yld i H x H' → g x σ H' fun σ2 H2 => tb { D with nx := N, ct := N, bk := D.nx } σ2 H2) := by
  refine ⟨fun i m σ H => m = kvs.length - i ∧ i ≤ kvs.length ∧ Pv i σ H, ⟨kvs.length, by simp, Nat.zero_le _, h0⟩, ?_⟩
  rintro i m σ H ⟨rfl, hi, p⟩
  have q := hl i σ H hi p
  by_cases hlt : i < kvs.length
  · refine .inr ⟨⟨q, hlt⟩, Pv (i + 1), fun σ' H' p' => ⟨kvs.length - (i + 1), by omega, rfl, hlt, p'⟩, fun x H' y => ?_⟩
    obtain ⟨rfl, k, hk⟩ := (show H' = H ∧ ∃ k, kvs[i]? = some (k, x) from y)
    exact hs i k x σ H' hk p
  · have e : i = kvs.length := by omega
    subst e
    exact .inl ⟨⟨q, Nat.le_refl _⟩, hd σ H p⟩
theorem tups_frz {H : Hp} {m : Addr} {od : Obj} {kvs : List (Key × V)} {o : HO} (h : H m = some (.frz od (.dK kvs))) : Tups H (upd H m o) :=
  ⟨fun b xs e => by rw [upd_ne (ne_of e h (by intro z; cases z))]; exact e, fun b o xs e => by rw [upd_ne (ne_of e h (by intro z; cases z))]; exact e⟩
/-- {k(x): a new thing for x in l}: what is said of the things stands while tuples stand -/
theorem dcT {α : Type} {K : PySem.W.Frag} {tl tk te : TE} {i : Nat} {σ : St} {H : Hp} {Q : VK} {l : Addr} (items : List α) (val : α → V) (κ : α → Key) (G : α → V → Hp → Prop) (hG : ∀ x v H H', G x v H → Tups H H' → G x v H') (htl : ∀ Q : VK, Q (.ref l) H → tl σ H Q) (hl : SqL K H l (items.map val)) (hz : items.length < 100000)
    (hnd : (items.map κ).Nodup) (hw : ∀ x, wipe ((wipe σ [i]).set i (some x)) [i] = wipe σ [i])
    (each1 : ∀ (j : Nat) x H', items[j]? = some x → Same H H' → ∀ R : VK, (∀ H2, Same H' H2 → R (kV (κ x)) H2) → tk ((wipe σ [i]).set i (some (val x))) H' R)
    (each2 : ∀ (j : Nat) x H', items[j]? = some x → Same H H' → ∀ R : VK, (∀ v H2, Same H' H2 → G x v H2 → R v H2) → te ((wipe σ [i]).set i (some (val x))) H' R)
    (q : ∀ D vs H', H D = none → Same H H' → vs.length = items.length → H' D = some (.dK ((items.zip vs).map fun z => (κ z.1, z.2))) → (∀ (j : Nat) x v, items[j]? = some x → vs[j]? = some v → G x v H') → Q (.ref D) H') : tDc (iList K tl) (gName i) tYes tk te [i] σ H Q := by
  refine htl _ ⟨l, rfl, ⟨_, hl⟩, fun D nD => ?_⟩
  let Pv : Nat → Hp → Prop := fun j H' => Same H H' ∧ ∃ vs : List V, vs.length = j ∧ H' D = some (.dK (((items.take j).zip vs).map fun z => (κ z.1, z.2))) ∧ ∀ (r : Nat) x v, items[r]? = some x → vs[r]? = some v → G x v H'
  refine ⟨fun j m H' => m = items.length - j ∧ j ≤ items.length ∧ Pv j H', ⟨items.length, by simp, Nat.zero_le _, Same.new nD, [], rfl, upd_same, fun r x v _ h => by simp at h⟩, ?_⟩
  rintro j m H' ⟨rfl, hj, s, vs, lv, hD, hvs⟩
  have hl' := hl.same s
  by_cases hlt : j < items.length
  · have hy := List.getElem?_eq_getElem hlt
    refine .inr ⟨⟨_, _, hl', by rw [List.getElem?_map, hy]; rfl⟩, Pv (j + 1), fun H2 p => ⟨items.length - (j + 1), by omega, rfl, hlt, p⟩, ?_⟩
    rintro x H2 yl
    obtain ⟨rfl, hx⟩ := (show H2 = H' ∧ ∀ xs, SqL K H' l xs → xs[j]? = some x from yl)
    have hx := hx _ hl'
    rw [List.getElem?_map, hy] at hx
    cases hx
    refine ⟨hw _, ?_⟩
    simp only [tYes, if_true]
    refine each1 j _ _ hy s _ fun H4 s4 => each2 j _ H4 hy (s.trans s4) _ fun v H5 s5 hv => ?_
    have hD5 := s5 _ _ (s4 _ _ hD)
    have lz : ((items.take j).zip vs).length = j := by rw [List.length_zip, List.length_take, lv]; omega
    have tu : ∀ o, Tups H5 (upd H5 D o) := fun o => Tups.mut (by rw [hD5]; trivial)
    refine ⟨_, _, rfl, hD5, line_lt (by rw [List.length_map, lz]; omega), ((s.trans s4).trans s5).mut nD, vs ++ [v], by rw [List.length_append, lv]; rfl, ?_, ?_⟩
    · rw [upd_same]
      have ht : items.take (j + 1) = items.take j ++ [items[j]] := by rw [List.take_add_one, hy]; rfl
      have e1 : ((items.take j).zip vs).map (fun z => (κ z.1, z.2)) = ((items.take j).zip vs).map (fun z => (κ z.1, z.2)) := rfl
      have nk : ¬ (((((items.take j).zip vs).map fun z => (κ z.1, z.2)).any fun kv => decide (kv.1 = κ items[j])) = true) := by
        intro h
        obtain ⟨z, hz, e⟩ := List.any_eq_true.mp h
        obtain ⟨w, hw', rfl⟩ := List.mem_map.mp hz
        have e : κ w.1 = κ items[j] := of_decide_eq_true e
        have hm : w.1 ∈ items.take j := (List.of_mem_zip (a := w.1) (b := w.2) hw').1
        have nd : ((items.take j).map κ ++ [κ items[j]]).Nodup := by
          have : (items.take j).map κ ++ [κ items[j]] = (items.map κ).take (j + 1) := by rw [← List.map_take, ht, List.map_append]; rfl
          rw [this]; exact hnd.sublist (List.take_sublist _ _)
        rw [List.nodup_append] at nd
        exact nd.2.2 _ (List.mem_map.mpr ⟨w.1, hm, rfl⟩) _ (List.mem_singleton.mpr rfl) e
      unfold putK
      rw [if_neg nk, ht, List.zip_append (by rw [List.length_take, lv]; omega), List.map_append]
      rfl
    · intro r x u hr hu
      by_cases hrj : r < j
      · rw [List.getElem?_append_left (by omega)] at hu
        exact hG _ _ _ _ (hvs r x u hr hu) ((s4.tups.trans s5.tups).trans (tu _))
      · have hr0 : r - vs.length = 0 := by
          by_cases z : r - vs.length = 0
          · exact z
          · exfalso
            rw [List.getElem?_append_right (by omega), List.getElem?_eq_none (by simp; omega)] at hu; cases hu
        rw [List.getElem?_append_right (by omega), hr0] at hu
        cases hu
        obtain rfl : r = j := by omega
        rw [hy] at hr
        cases hr
        exact hG _ _ _ _ hv (tu _)
  · have e : j = items.length := by omega
    subst e
    rw [List.take_length] at hD
    exact .inl ⟨⟨_, hl', by rw [List.length_map]; exact Nat.le_refl _⟩, q D vs H' nD s lv hD hvs⟩
/-- [k for k in d if f(k)], d locked -/
theorem lcKeys {K : PySem.W.Frag} {td : TE} {tt : TT} {i : Nat} {σ : St} {H : Hp} {Q : VK} {d : Addr} {o : Obj} {kvs : List (Key × V)} (f : Key → Bool) (htd : ∀ Q : VK, Q (.ref d) H → td σ H Q) (hd : H d = some (.frz o (.dK kvs))) (hz : kvs.length < 100000)
    (hw : ∀ x, wipe ((wipe σ [i]).set i (some x)) [i] = wipe σ [i]) (hv : ∀ x, ((wipe σ [i]).set i (some x))[i]? = some (some x))
    (each : ∀ (k : Key) H', Same H H' → ∀ R : Bool → Hp → Prop, (∀ H2, Same H' H2 → R (f k) H2) → tt ((wipe σ [i]).set i (some (kV k))) H' R)
    (q : ∀ D H', H D = none → Same H H' → H' D = some (.lst (((kvs.map (·.1)).filter f).map kV)) → Q (.ref D) H') : tLc (iKeys td) (gName i) tt (tVar i) [i] σ H Q := by
  refine htd _ ⟨d, o, rfl, .inl ⟨kvs, hd, fun D nD => ?_⟩⟩
  let Pv : Nat → Hp → Prop := fun j H' => Same H H' ∧ H' D = some (.lst ((((kvs.take j).map (·.1)).filter f).map kV))
  refine ⟨fun j m H' => m = kvs.length - j ∧ j ≤ kvs.length ∧ Pv j H', ⟨kvs.length, by simp, Nat.zero_le _, Same.new nD, upd_same⟩, ?_⟩
  rintro j m H' ⟨rfl, hj, s, hD⟩
  have hd' := s _ _ hd
  by_cases hlt : j < kvs.length
  · have hy := List.getElem?_eq_getElem hlt
    refine .inr ⟨⟨hd', hlt⟩, Pv (j + 1), fun H2 p => ⟨kvs.length - (j + 1), by omega, rfl, hlt, p⟩, ?_⟩
    rintro x H2 yl
    obtain ⟨rfl, k, v, hk, rfl⟩ := (show H2 = H' ∧ ∃ k v, kvs[j]? = some (k, v) ∧ x = kV k from yl)
    refine ⟨hw _, ?_⟩
    have ht : kvs.take (j + 1) = kvs.take j ++ [(k, v)] := by rw [List.take_add_one, hk]; rfl
    refine each k _ s _ fun H3 s3 => ?_
    by_cases hf : f k = true
    · rw [if_pos hf]
      refine ⟨_, hv _, _, s3 _ _ hD, ?_, (s.trans s3).mut nD, ?_⟩
      · refine line_lt ?_
        rw [List.length_map]
        have h1 := List.length_filter_le f ((kvs.take j).map (·.1))
        rw [List.length_map, List.length_take] at h1
        omega
      · rw [upd_same, ht, List.map_append, List.filter_append, List.map_append]
        simp [hf]
    · rw [if_neg hf]
      refine ⟨s.trans s3, ?_⟩
      rw [s3 _ _ hD, ht, List.map_append, List.filter_append]
      simp [hf]
  · have e : j = kvs.length := by omega
    subst e
    rw [List.take_length] at hD
    exact .inl ⟨⟨hd', Nat.le_refl _⟩, q D H' nD s hD⟩
/-- [e(x) for x in a list that is made on the way], data of each -/
theorem lcMapN {K : PySem.W.Frag} {tl te : TE} {i : Nat} {σ : St} {H : Hp} {Q : VK} {xs : List V} {ds : List PyData} (htl : ∀ Q : VK, (∀ l H1, Same H H1 → H1 l = some (.lst xs) → Q (.ref l) H1) → tl σ H Q) (hlen : ds.length = xs.length) (hz : xs.length < 100000) (hi : immAll ds = true)
    (hw : ∀ x, wipe ((wipe σ [i]).set i (some x)) [i] = wipe σ [i]) (each : ∀ (j : Nat) x d H', xs[j]? = some x → ds[j]? = some d → Same H H' → Gv K te ((wipe σ [i]).set i (some x)) H' d)
    (q : ∀ D ys H', H D = none → Same H H' → H' D = some (.lst ys) → DpAll K H' ys ds → Q (.ref D) H') : tLc (iList K tl) (gName i) tYes te [i] σ H Q := by
  refine htl _ fun l H1 s1 hl => ?_
  have r := lcMap (K := K) (tl := fun σ H Q => Q (.ref l) H) (te := te) (i := i) (σ := σ) (H := H1) (Q := Q) (l := l) (xs := xs) (ds := ds) (fun Q hq => hq) (SqL.of hl) hlen hz hi hw (fun j x d H' h1 h2 s => each j x d H' h1 h2 (s1.trans s)) fun D ys H' nD s hD hys => q D ys H' (s1.free nD) (s1.trans s) hD hys
  exact r
end L2

/-! # Calls that may raise at the slots of the moment; several except clauses with a name -/
namespace L2
open PySem PySem.Spec PyProof.Rows
section
variable {X : Cx} {CX : CXT} {k n : Nat} {f C : Addr} {fd : FuncData} {ps ks : List Str} {sp : Sp} {E : St → XK} {x m : Str} {p pos apos : Pos} {e o : Expr} {es : List Expr} {kws : List Keyword} {ta : TE} {t tk : TA} {g : List Value → List Value → List Value} {gV : List V → List V → List V}
theorem run_fnNS {pins : List (Addr × Obj)} {σ : St} {H : Hp} {s : Shared} {Q : VK} {us ws : List Value} {vs zs : List V} (F : FnOk X.prog X.w X.K X.mg X.base CX k f fd ps sp) (hr : Room k X.A) (hb : KBn X.K fd ps n ks g gV) (hx : PassesAt CX X σ (E σ))
    (I : Inv X pins σ H s) (r : Vals vs us) (rz : Vals zs ws) (l1 : vs.length = n) (l2 : zs.length = ks.length) (h : sp (gV vs zs) H Q (E σ)) : wpAny (model X.prog X.w) X.A (call (.ref f) us (ks.zip ws)) (EP X pins σ Q) X.xe s := by
  have r2 := hb.rel r rz
  refine wpAny_call (codeAny_mono (F.run X.A X.stack s H ⟨us, ks.zip ws⟩ (g us ws) (gV vs zs) Q (E σ) hr I.env0 (hb.to s us ws I.kIn (r.length.symm.trans l1) (rz.length.symm.trans l2)) r2 h) fun r s' hq => ?_)
  cases r with
  | error e => exact hx pins H s e s' I hq
  | ok fl =>
    cases fl with
    | ret u => exact I.after hq
    | next => exact False.elim hq
    | brk => exact False.elim hq
    | cont => exact False.elim hq
/-- f(k = v, ..) -/
def tCallN0S (m : Nat) (sp : Sp) (gV : List V → List V → List V) (E : St → XK) (tk : TA) : TE := fun σ H Q => tk σ H fun zs H2 => zs.length = m ∧ sp (gV [] zs) H2 Q (E σ)
theorem pe_callN0S (F : FnOk X.prog X.w X.K X.mg X.base CX k f fd ps sp) (hr : Room k X.A) (hg : Gl X x) (hm : X.mg x = some (.ref f)) (hk : PySem.W.keepIn X.K (.ref f) = true) (hb : KBn X.K fd ps 0 ks g gV) (hx : ∀ σ, PassesAt CX X σ (E σ))
    (hkw : PK X kws tk) (hall : (backToKw pos (keywordEach kws X.env)).all (·.1.isSome) = true := by rfl) (hks : (backToKw pos (keywordEach kws X.env)).filterMap (·.1) = ks := by rfl)
    (hdb : (x == ("__debug__" : Str)) = false := by decide)
    (hpl : ((backTo pos (starEach [] X.env)).any (·.1) || (backToKw pos (keywordEach kws X.env)).any (·.1.isNone)) = false := by rfl) :
    PE X (.Call (.Name x p) [] kws pos) (tCallN0S ks.length sp gV E tk) := by
  refine ⟨fun pins s σ H Q I h => ?_⟩
  refine wpAny_Call_Name_kw (ld_glob I hg hm ?_ hdb)
  refine PySem.W.callWith_KW0 (h₀ := X.base) I.ok.mod.kin hk hall ?_ hpl
  refine thn (hkw.run pos pins s σ H _ I h) fun ws s2 ⟨zs, H2, I2, rz, l2, q2⟩ => ⟨I2.kIn, ?_⟩
  rw [hks]
  exact run_fnNS (us := []) (vs := []) F hr hb (hx σ) I2 .nil rz rfl l2 q2
theorem run_makeS {pins : List (Addr × Obj)} {σ : St} {H : Hp} {s : Shared} {Q : VK} {us : List Value} {vs : List V} (M : Mk X.K C f) (F : FnOk X.prog X.w X.K X.mg X.base CX k f fd ps sp) (hr : Room (k + 1) X.A) (hb : Binds X.K fd ps [])
    (hx : PassesAt CX X σ (E σ)) (I : Inv X pins σ H s) (r : Vals vs us)
    (h : ∀ x dx, H x = none → H dx = none → dx ≠ x → sp (.ref x :: vs) (upd (upd H dx (.own x)) x (.ins C dx [])) (fun v H2 => v = .non ∧ Q (.ref x) H2) (E σ)) :
    wpAny (model X.prog X.w) X.A (call (.ref C) us) (EP X pins σ Q) X.xe s := by
  have hq := h (s.heap.objs.size + 1) s.heap.objs.size (I.hok.fresh (Nat.le_succ _)) (I.hok.fresh (Nat.le_refl _)) (Nat.ne_of_lt (Nat.lt_succ_self _))
  have I2 := Inv.made (C := C) I
  have r2 : Vals (V.ref (s.heap.objs.size + 1) :: vs) (Value.ref (s.heap.objs.size + 1) :: us) := .cons rfl r
  have hl : (Value.ref (s.heap.objs.size + 1) :: us ++ []).length = ps.length := by
    have e := r2.length
    rw [F.len _ _ _ _ hq] at e
    rw [List.append_nil]
    exact e.symm
  have hbb := hb _ (Value.ref (s.heap.objs.size + 1) :: us) I2.kIn hl
  rw [List.append_nil] at hbb
  refine wpAny_call (make_map (f := f) I.kIn M.makes M.init (beq_iff_eq.mp M.fn) (codeAny_mono (F.run _ X.stack _ _ ⟨Value.ref (s.heap.objs.size + 1) :: us, []⟩ (Value.ref (s.heap.objs.size + 1) :: us) _ _ (E σ) (hr.make C us [])
    (I2.env0.make C us []) hbb r2 hq) fun r s' hq' => ?_))
  cases r with
  | error e => exact hx pins _ _ e s' I2 hq'
  | ok fl =>
    cases fl with
    | ret u =>
      obtain ⟨v, H', I3, rv, ev, q3⟩ := I2.after hq'
      subst ev
      exact ⟨rv, ⟨V.ref (s.heap.objs.size + 1), H', I3, rfl, q3⟩⟩
    | next => exact False.elim hq'
    | brk => exact False.elim hq'
    | cont => exact False.elim hq'
/-- C(e, ..), where __init__ may raise -/
def tMakeS (C : Addr) (sp : Sp) (E : St → XK) (t : TA) : TE := fun σ H Q => t σ H fun vs H1 => ∀ x dx, H1 x = none → H1 dx = none → dx ≠ x → sp (.ref x :: vs) (upd (upd H1 dx (.own x)) x (.ins C dx [])) (fun v H2 => v = .non ∧ Q (.ref x) H2) (E σ)
theorem pe_makeS (M : Mk X.K C f) (F : FnOk X.prog X.w X.K X.mg X.base CX k f fd ps sp) (hr : Room (k + 1) X.A) (hg : Gl X x) (hm : X.mg x = some (.ref C)) (hb : Binds X.K fd ps []) (hx : ∀ σ, PassesAt CX X σ (E σ))
    (ha : PA X (e :: es) t) (hdb : (x == ("__debug__" : Str)) = false := by decide) (he : starEach (e :: es) X.env = (false, eval e X.env) :: starEach es X.env := by rfl) (hpl : (backTo pos (starEach es X.env)).any (·.1) = false := by rfl) :
    PE X (.Call (.Name x p) (e :: es) [] pos) (tMakeS C sp E t) := by
  refine ⟨fun pins s σ H Q I h => ?_⟩
  refine wpAny_Call_Name_kw (ld_glob I hg hm ?_ hdb)
  refine PySem.W.callWith_K (h₀ := X.base) I.ok.mod.kin M.kp (thn (ha.run pos pins s σ H _ I h) fun us s1 ⟨vs, H1, I1, r, q⟩ => ⟨I1.kIn, ?_⟩) he hpl
  exact run_makeS M F hr hb (hx σ) I1 r q
/-- o.m(e, ..), which may raise -/
def tMethX (C : Addr) (m : Str) (sp : Sp) (E : St → XK) (ta : TE) (t : TA) : TE := fun σ H Q => ta σ H fun x H1 => ∃ a dx fs, x = .ref a ∧ H1 a = some (.ins C dx fs) ∧ fs.lookup m = none ∧ t σ H1 fun vs H2 => sp (.ref a :: vs) H2 Q (E σ)
theorem pe_methX {pl : Sem Bool} (he : PE X o ta) (c : Cls X.K C) (hm : Meth X.K C m f) (F : FnOk X.prog X.w X.K X.mg X.base CX k f fd ps sp) (hr : Room k X.A) (hb : Binds X.K fd ps []) (hx : ∀ σ, PassesAt CX X σ (E σ)) (ha : PA X (e :: es) t)
    (hst : starEach (e :: es) X.env = (false, eval e X.env) :: starEach es X.env := by rfl) (hpl : (backTo pos (starEach es X.env)).any (·.1) = false := by rfl)
    (ht : eval (.Call (.Attribute o m apos) (e :: es) [] pos) X.env = (do
      let ov ← eval o X.env
      standAt apos.atName
      let (f, first) ← holding [ov] (getMethod ov m pl)
      callWith pos f first (backTo pos (starEach (e :: es) X.env)) (backToKw pos (keywordEach [] X.env))) := by rfl) :
    PE X (.Call (.Attribute o m apos) (e :: es) [] pos) (tMethX C m sp E ta t) := by
  refine ⟨fun pins s σ H Q I h => ?_⟩
  refine PySem.W.methodCall_KW (pl := pl) (thn (he.run pins s σ H _ I h) fun u s1 ⟨x, H1, I1, rx, a, dx, fs, ex, ea, l, q⟩ => ?_) ht
  subst ex
  obtain rfl : u = Value.ref a := rx
  refine getmeth_ok I1 ea c hm l ?_
  refine PySem.W.callWith_K (first := [.ref a]) (h₀ := X.base) I.ok.mod.kin hm.kp (thn (ha.run pos pins s1 σ H1 _ I1 q) fun us s2 ⟨vs, H2, I2, r, q2⟩ => ⟨I2.kIn, ?_⟩) hst hpl
  exact run_fnS (us := .ref a :: us) (vs := .ref a :: vs) F hr hb (hx σ) I2 (.cons rfl r) q2
/-- o.m(k = v, ..), which may raise -/
def tMethNS (C : Addr) (m : Str) (n : Nat) (sp : Sp) (gV : List V → List V → List V) (E : St → XK) (ta : TE) (tk : TA) : TE := fun σ H Q => ta σ H fun x H1 => ∃ a dx fs, x = .ref a ∧ H1 a = some (.ins C dx fs) ∧ fs.lookup m = none ∧ tk σ H1 fun zs H2 => zs.length = n ∧ sp (gV [.ref a] zs) H2 Q (E σ)
theorem pe_methNS {pl : Sem Bool} (he : PE X o ta) (c : Cls X.K C) (hm : Meth X.K C m f) (F : FnOk X.prog X.w X.K X.mg X.base CX k f fd ps sp) (hr : Room k X.A) (hb : KBn X.K fd ps 1 ks g gV) (hx : ∀ σ, PassesAt CX X σ (E σ)) (hkw : PK X kws tk)
    (hall : (backToKw pos (keywordEach kws X.env)).all (·.1.isSome) = true := by rfl) (hks : (backToKw pos (keywordEach kws X.env)).filterMap (·.1) = ks := by rfl)
    (hpl : ((backTo pos (starEach [] X.env)).any (·.1) || (backToKw pos (keywordEach kws X.env)).any (·.1.isNone)) = false := by rfl)
    (ht : eval (.Call (.Attribute o m apos) [] kws pos) X.env = (do
      let ov ← eval o X.env
      standAt apos.atName
      let (f, first) ← holding [ov] (getMethod ov m pl)
      callWith pos f first (backTo pos (starEach [] X.env)) (backToKw pos (keywordEach kws X.env))) := by rfl) :
    PE X (.Call (.Attribute o m apos) [] kws pos) (tMethNS C m ks.length sp gV E ta tk) := by
  refine ⟨fun pins s σ H Q I h => ?_⟩
  refine PySem.W.methodCall_KW (pl := pl) (thn (he.run pins s σ H _ I h) fun u s1 ⟨x, H1, I1, rx, a, dx, fs, ex, ea, l, q⟩ => ?_) ht
  subst ex
  obtain rfl : u = Value.ref a := rx
  refine getmeth_ok I1 ea c hm l ?_
  refine PySem.W.callWith_KW0 (first := [.ref a]) (h₀ := X.base) I.ok.mod.kin hm.kp hall ?_ hpl
  refine thn (hkw.run pos pins s1 σ H1 _ I1 q) fun ws s2 ⟨zs, H2, I2, rz, l2, q2⟩ => ⟨I2.kIn, ?_⟩
  rw [hks]
  exact run_fnNS (us := [.ref a]) (vs := [.ref a]) F hr hb (hx σ) I2 (.cons rfl .nil) rz rfl l2 q2
/-- a + b, which may raise -/
def tAddOS (C : Addr) (sp : Sp) (E : St → XK) (ta tb : TE) : TE := fun σ H Q => ta σ H fun x H1 => tb σ H1 fun y H2 => rAddO C sp (E σ) x y H2 Q
theorem pe_addOS {a b : Expr} {tb : TE} (hs : Spc X.K C "__add__" f) (hc : PySem.W.selfFirst X.K C = true) (F : FnOk X.prog X.w X.K X.mg X.base CX k f fd ps sp) (hr : Room k X.A) (hb : Binds X.K fd ps []) (hx : ∀ σ, PassesAt CX X σ (E σ)) (ha : PE X a ta) (hb' : PE X b tb) : PE X (.BinOp a .Add b pos) (tAddOS C sp E ta tb) := by
  refine ⟨fun pins s σ H Q I h => ?_⟩
  refine wpAny_BinOp (binT ha hb' I h fun v u s2 x y H2 I2 rx ry q => ?_)
  obtain ⟨a, dx, fs, b, dx', fs', rfl, rfl, e, e', h⟩ := q
  cases rx
  cases ry
  obtain ⟨od, J⟩ := ins_at I2 e
  obtain ⟨od', J'⟩ := ins_at I2 e'
  obtain ⟨m, F0⟩ := I2.fr
  refine PySem.W.binop_K F0 I2.ok.mod.kin J J'.type hc hs.at_ hs.fn (wpAny_mono (run_fnS F hr hb (hx σ) I2 (vs := [.ref a, .ref b]) (us := [.ref a, .ref b]) (.cons rfl (.cons rfl .nil)) h) (fun v s' q => ?_) fun _ _ z => z)
  obtain ⟨v', H', I', rv, ⟨c, rfl⟩, q⟩ := q
  cases rv
  exact ⟨.ref c, H', I', rfl, q⟩
theorem run_in1S {pins : List (Addr × Obj)} {σ : St} {H : Hp} {s : Shared} {Q : VK} {us : List Value} {vs : List V} (F : FnOk X.prog X.w X.K X.mg X.base CX k f fd ps sp) (hr : Room (k + 1) X.A) (hb : Binds X.K fd ps []) (hx : PassesAt CX X σ (E σ))
    (I : Inv X pins σ H s) (r : Vals vs us) (h : sp vs H Q (E σ)) : wpAny (model X.prog X.w) X.A.in1 (call (.ref f) us) (EP X pins σ Q) X.xe s := by
  have hl : us.length = ps.length := by rw [← r.length]; exact F.len _ _ _ _ h
  refine wpAny_call (codeAny_mono (F.run X.A.in1 X.stack s H ⟨us, []⟩ us vs Q (E σ) hr.in1 I.env0.in1 (by have q := hb s us I.kIn (by simpa using hl); simpa using q) r h) fun r s' hq => ?_)
  cases r with
  | error e => exact hx pins H s e s' I hq
  | ok fl =>
    cases fl with
    | ret u => exact I.after hq
    | next => exact False.elim hq
    | brk => exact False.elim hq
    | cont => exact False.elim hq
def tIxOS (C : Addr) (sp : Sp) (E : St → XK) (ta tb : TE) : TE := fun σ H Q => ta σ H fun x H1 => tb σ H1 fun y H2 => rIxO C sp (E σ) x y H2 Q
theorem pe_ixOS {a b : Expr} {tb : TE} (hs : Spc X.K C "__getitem__" f) (hf : PySem.W.fnIn X.K f = true) (F : FnOk X.prog X.w X.K X.mg X.base CX k f fd ps sp) (hr : Room (k + 1) X.A) (hb : Binds X.K fd ps []) (hx : ∀ σ, PassesAt CX X σ (E σ))
    (ha : PE X a ta) (hb' : PE X b tb) (hsl : ∀ o i, subscripted b true o i = runValue (.builtin "lifetime.subscript" ⟨[o, i], []⟩)) : PE X (.Subscript a b pos) (tIxOS C sp E ta tb) := by
  refine ⟨fun pins s σ H Q I h => ?_⟩
  refine Subscript_ (binT ha hb' I h fun v u s2 x y H2 I2 rx ry q => ?_)
  obtain ⟨o, dx, fs, rfl, e, h⟩ := q
  cases rx
  obtain ⟨od, J⟩ := ins_at I2 e
  obtain ⟨m, F0⟩ := I2.fr
  exact PySem.W.sub_K F0 I2.ok.mod.kin J hs.at_ hf hs.fn (run_in1S F hr hb (hx σ) I2 (vs := [.ref o, y]) (us := [.ref o, u]) (.cons rfl (.cons ry .nil)) h) (hsl _ _)
end
/-! ### try .. except X as n .. except Y as n -/
def endsAs (i : Nat) (D : Ends) : Ends := { nx := fun σ' H' => D.nx (σ'.set i none) H', rt := D.rt, bk := fun σ' H' => D.bk (σ'.set i none) H', ct := fun σ' H' => D.ct (σ'.set i none) H' }
def wManyAs (K : PySem.W.Frag) (i : Nat) (Wout : WX) (D : Ends) : List (Value × (Addr → Value → Option Addr → TS)) → WX
  | [] => Wout
  | (c, ts) :: r => fun cls d σ H => ∃ b, PySem.W.exmOne K cls c = some b ∧ (b = true → ∀ a, H a = none → ts a cls d (endsAs i D) (σ.set i (some (.ref a))) H) ∧ (b = false → wManyAs K i Wout D r cls d σ H)
inductive HdsAs (X : Cx) (n : Str) : List ExceptHandler → List (Value × (Addr → Value → Option Addr → TS)) → Prop
  | nil : HdsAs X n [] []
  | cons {x : Str} {c : Value} {ts : Addr → Value → Option Addr → TS} {b₀ : Stmt} {suite : List Stmt} {np pos' : Pos} {hds : List ExceptHandler} {l : List (Value × (Addr → Value → Option Addr → TS))} (hc : Names X x c)
      (hsu : ∀ (a : Addr) (oe : Obj) (cls : Value) (d : Option Addr) (pn : List (Addr × Obj)), Zc cls d oe → (∃ vs, oe.data = .fields vs) → PSs (X.suite a ((a, oe) :: pn)) (b₀ :: suite) (ts a cls d)) (r : HdsAs X n hds l) :
      HdsAs X n (.ExceptHandler (some (.Name x np)) (some n) (b₀ :: suite) pos' :: hds) ((c, ts) :: l)
section
variable {X : Cx} {n : Str} {i : Nat} {body : List Stmt} {h₀ : ExceptHandler} {hds : List ExceptHandler} {l : List (Value × (Addr → Value → Option Addr → TS))} {pos : Pos} {tb : WX → TS} {Wout : WX}
theorem ps_try_manyAs (hs : X.stack = X.env :: X.outer) (hf : X.env.frame = some X.env.locals) (hN : X.N.Nodup) (hi : X.N[i]? = some n) (hln : X.env.kindOf n = some .local) (tk : Takes X Wout)
    (hb : ∀ (W : WX) (pn : List (Addr × Obj)) (xe : Value → Shared → Prop), Takes (X.tr pn xe) W → PassesOwn (model X.prog X.w) X.A X.env xe → PSs (X.tr pn xe) body (tb W))
    (hh : HdsAs X n (h₀ :: hds) l) : PS X (.Try body (h₀ :: hds) [] [] pos) (fun D σ H => tb (wManyAs X.K i Wout D l) D σ H) := by
  refine ⟨fun pins s σ H D I h => ?_⟩
  have ok := I.ok
  have hfr : X.A.frames = some (X.env :: X.outer) := by rw [ok.frames, hs]
  have hloc : Loc X.env.scope n := .inl hln
  refine wpAny_Try_except ?_
  refine wpAny_mono ((hb (wManyAs X.K i Wout D l) (X.pn ++ pins) (fun e s₁ => wpAny (model X.prog X.w) X.A (noteFrame e X.env) (fun _ s₂ => wpAny (model X.prog X.w) X.A (setFlight e none) (fun _ s₃ =>
    wpAny (model X.prog X.w) X.A (handleBy e X.env (h₀ :: hds)) (SP X pins D) X.xe s₃) X.xe s₂) X.xe s₁) (fun u s' xx => ?_) PassesOwn.looking).run [] s σ H D (I.toTry _) h) (fun f s1 hsp => ?_) (fun e s1 he => he)
  · obtain ⟨a, B, sI, pins', σ', H', cls, d, rfl, J', nb, up, sky, na, os, ag, w⟩ := xx
    have J : Inv X pins σ' H' sI := J'.ofTry ok
    have sky' : Sky B (X.env :: X.outer) a (Zc cls d) X.env.locals s'.heap := by rw [← hs]; exact sky
    show wpAny (model X.prog X.w) X.A (noteFrame (.ref a) X.env) _ _ _
    refine Sky.land Zc.steady hfr hf sky' fun h3 fl3 up3 => ?_
    have J3 : Inv X pins σ' H' { s' with heap := h3 } := J.landed nb fl3.1 (up.trans up3) os ag
    obtain ⟨oe3, vs3, he3, hz3, hd3⟩ := fl3.there
    have notFr : ∀ {h : Heap} {o : Obj} {vs : Array Value}, h.FunFrames B (X.env :: X.outer) → h.get? a = some o → o.data = .fields vs → a ∉ frs (X.env :: X.outer) := fun {h o vs} ff e dd hm => by
      obtain ⟨_, o', e', hnf⟩ := ff.mem hm
      rw [e] at e'; cases e'
      exact hnf _ dd
    have nfr := notFr fl3.2.2.1 he3 hd3
    have nL : a ≠ X.env.locals := fun z => nfr (List.mem_filterMap.mpr ⟨X.env, List.mem_cons_self, by rw [hf, z]⟩)
    have nF : a ∉ X.fs := fun hm => by
      obtain ⟨e, he, q⟩ := List.mem_filterMap.mp hm
      exact nfr (List.mem_filterMap.mpr ⟨e, List.mem_cons_of_mem _ he, q⟩)
    have S3 := J3.suite he3 hd3 na nL nF
    have go : ∀ {hds' : List ExceptHandler} {l' : List (Value × (Addr → Value → Option Addr → TS))}, HdsAs X n hds' l' → wManyAs X.K i Wout D l' cls d σ' H' →
        wpAny (model X.prog X.w) X.A (handleBy (.ref a) X.env hds') (SP X pins D) X.xe { s' with heap := h3 } := by
      intro hds' l' hk
      induction hk with
      | nil =>
        intro w
        refine wpAny_handleBy_nil ?_
        obtain ⟨k1, k2, k3, oe, vs, T, oT, ts', he, hz, hd, h1, hr⟩ := id fl3
        unfold PySem.passOn
        refine wpAny_bind (wpAny_field he hd h1 ?_)
        rw [if_neg (show ¬ ((Value.ref T == Value.none) = true) from by simp)]
        have fin : wpAny (model X.prog X.w) X.A (setFlight (.ref a) X.env.frame) (fun _ s4 => wpAny (model X.prog X.w) X.A (throw (.ref a) : Sem Flow) (SP X pins D) X.xe s4) X.xe { s' with heap := h3 } := by
          rw [hf]
          refine HandSPX.setFlight_upZ fl3 fun h4 hh4 up4 => wpAny_throw (tk _ _ ?_)
          exact ⟨a, B, sI, pins, σ', H', cls, d, rfl, J, nb, (up.trans up3).trans up4, .inr (.inr (by rw [hs]; exact hh4)), na, os, ag, w⟩
        first
          | exact wpAny_bind (wpAny_pure (wpAny_bind fin))
          | exact wpAny_bind fin
      | @cons x c ts b₀ suite np pos' hds2 l2 hc hsu r ih =>
        intro w
        obtain ⟨b, hb1, hyes, hno⟩ := w
        refine wpAny_handleBy_cons (codeAny_handlers_test ?_) (by intro q; cases q)
        have LT : PySem.W.Looks (model X.prog X.w) h3 (typeOf (.ref a)) cls := fun A Q E s k q => wpAny_typeOf_ref (k _ _ he3) (by rw [hz3.1]; exact q)
        have LM := PySem.W.exm_one (M := model X.prog X.w) (J3.kIn) LT hb1
        have test : ∀ {Q : Value → Shared → Prop} {E : Value → Shared → Prop}, Q c { s' with heap := h3 } → wpAny (model X.prog X.w) (X.A.mark (some (.ref a))) (eval (.Name x np) X.env) Q E { s' with heap := h3 } := fun {Q E} q => by
          obtain ⟨hg, hdbg, hm | ⟨hm, hv, hnn⟩⟩ := hc
          · exact ld_glob (X := X.suite a ((a, oe3) :: (X.pn ++ pins))) S3 hg hm q hdbg
          · exact ld_blt (X := X.suite a ((a, oe3) :: (X.pn ++ pins))) S3 hg hm hv q hnn hdbg
        refine test (LM.here ?_)
        cases b with
        | true =>
          refine codeAny_handlers_suite_as ?_
          refine HandSPX.lands_againZ fl3 fun h4 fl4 up4 => ?_
          have J4 : Inv X pins σ' H' { s' with heap := h4 } := J.landed nb fl4.1 ((up.trans up3).trans up4) os ag
          obtain ⟨oe4, vs4, he4, hz4, hd4⟩ := fl4.there
          have S4 := J4.suite he4 hd4 na nL nF
          refine store_ok (X := X.suite a ((a, oe4) :: (X.pn ++ pins))) (v := .ref a) S4 hN hi hloc rfl (fun s5 S5 => ?_) (.inr hln)
          refine wpAny_mono ((hsu a oe4 cls d (X.pn ++ pins) hz4 ⟨_, hd4⟩).run [] s5 _ H' _ S5 (hyes rfl a na)) (fun f s6 hsp => ?_) (fun _ _ z => False.elim z)
          have end_ : ∀ {σ6 : St} {H6 : Hp} {Q : Shared → Prop}, Inv (X.suite a ((a, oe4) :: (X.pn ++ pins))) [] σ6 H6 s6 → (∀ s7, Inv X pins (σ6.set i none) H6 s7 → Q s7) →
              wpAny (model X.prog X.w) X.A (do bindName X.env n .none; unbindBehindTheSuite X.env n pos') (fun _ s7 => Q s7) X.xe s6 := fun {σ6 H6 Q} S6 hq => gone_ok (S6.unsuite ok) hN hi hln hq
          cases f with
          | next =>
            obtain ⟨σ6, H6, S6, q6⟩ := hsp
            exact end_ S6 fun s7 J7 => ⟨_, _, J7, q6⟩
          | brk =>
            obtain ⟨σ6, H6, S6, q6⟩ := hsp
            exact end_ S6 fun s7 J7 => ⟨_, _, J7, q6⟩
          | cont =>
            obtain ⟨σ6, H6, S6, q6⟩ := hsp
            exact end_ S6 fun s7 J7 => ⟨_, _, J7, q6⟩
          | ret u =>
            obtain ⟨v6, σ6, H6, S6, r6, q6⟩ := hsp
            exact end_ S6 fun s7 J7 => ⟨_, _, _, J7, r6, q6⟩
        | false =>
          show wpAny _ X.A (handleBy (.ref a) X.env hds2) _ _ _
          exact ih (hno rfl)
    exact go hh w
  · cases f with
    | next =>
      obtain ⟨σ', H', J', q⟩ := hsp
      exact wpAny_execs_nil ⟨σ', H', J'.ofTry ok, q⟩
    | brk =>
      obtain ⟨σ', H', J', q⟩ := hsp
      exact ⟨σ', H', J'.ofTry ok, q⟩
    | cont =>
      obtain ⟨σ', H', J', q⟩ := hsp
      exact ⟨σ', H', J'.ofTry ok, q⟩
    | ret u =>
      obtain ⟨v, σ', H', J', r, q⟩ := hsp
      exact ⟨v, σ', H', J'.ofTry ok, r, q⟩
end
end L2
/-! ### isinstance of a caught error, with or without fields -/
namespace PySem.W
open PySem PySem.Spec PySem.Calls PyProof.Rows
section
variable {prog : Program} {w : World} {A : Around} {E : Value → Shared → Prop} {s : Shared} {K : Frag} {x D : Addr} {ox : Obj} {od : Option Obj}
theorem findObj_dataA {C : Addr} {name : Str} {a g : Value} (hc : (clsIn K C).isSome = true) (ha : findIn K (.ref C) name = some (some a)) (hg : specialIn K a "__get__" = some (some g)) (ht : takesIn K a = some true) : findObj K C od name = some (.bind g a) := by
  obtain ⟨cd, hc⟩ := Option.isSome_iff_exists.mp hc
  unfold findObj
  rw [hc, Option.bind_some, ha, Option.bind_some]
  simp [hg, ht]
theorem kin_classX {Q : Option Value → Shared → Prop} (hga : findIn K (.ref D) "__getattribute__" = some (some (.builtin "BaseException.__getattribute__"))) (hgt : findIn K (.ref D) "__getattr__" = some none) (hsub : subIn K (.ref D) (.type "BaseException") = some true)
    (hdct : hasDictIn K D = true) (ha : findIn K (.ref D) "__class__" = some (some (.builtin "object.__class__")))
    (hn : specialIn K (.builtin "object.__class__") "__get__" = some (some (.builtin "getset_descriptor.__get__"))) (htk : takesIn K (.builtin "object.__class__") = some true) (hm : mroIn K D (.type "object") = some true)
    (X : K.In s.heap) (I : InstAt s.heap x ox D od) (h : Q (some (.ref D)) { s with toks := s.toks + 1 }) : wpAny (model prog w) A (getAttr? (.ref x) "__class__") Q E s := by
  have hf : findObj K D od "__class__" = some (.bind (.builtin "getset_descriptor.__get__") (.builtin "object.__class__")) := findObj_dataA (by obtain ⟨cd, hc, _⟩ := any_some hdct; rw [hc]; rfl) ha hn htk
  obtain ⟨hp, g, d, t, os⟩ := s
  have L0 := I.type (M := model prog w)
  have L1 := looks_findIn (M := model prog w) X hga
  have L2 := looks_findIn (M := model prog w) X hgt
  have L3 := looks_find (M := model prog w) X I hf
  have sub : Looks (model prog w) hp (isInstance (.ref x) (.type "BaseException")) true := L0.andThen (looks_subIn X hsub)
  have hx0 : (false && onTheHeap (Value.builtin "BaseException.__getattribute__")) = false := rfl
  have hx2 : (Value.builtin "BaseException.__getattribute__" == Value.builtin "object.__getattribute__") = false := by decide +kernel
  have hx1 : (onTheHeap (Value.ref D) && Value.builtin "BaseException.__getattribute__" == Value.builtin "object.__getattribute__") = false := by rw [hx2]; rfl
  unfold getAttr? getAttrBy? getAttrBy
  refine wpAny_bind (wpAny_mkText (wpAny_bind (wpAny_attempt (wpAny_holding (wpAny_bind (L0.at (wpAny_bind (L1.at ?_))))))))
  show wpAny _ _ (if (onTheHeap (Value.ref D) && Value.builtin "BaseException.__getattribute__" == Value.builtin "object.__getattribute__") = true then _ else _) _ _ _
  rw [hx1, if_neg Bool.false_ne_true]
  unfold getAttrByItsOwn hookBefore
  refine wpAny_bind ?_
  rw [if_pos (show onTheHeap (Value.ref D) = true from rfl)]
  refine L2.at ?_
  refine wpAny_bind (wpAny_attempt (wpAny_holding ?_))
  unfold callGetattribute
  rw [hx0, if_neg Bool.false_ne_true]
  unfold boundAndCalled
  rw [PySem.F.excAttr_ValueError.ga.bind (.ref x)]
  refine wpAny_bind (wpAny_pure ?_)
  show wpAny _ _ (call (.builtin "BaseException.__getattribute__") [.ref x, .str "__class__" t]) _ _ _
  refine wpAny_call (codeAny_call_builtin PySem.F.excAttr_ValueError.ga.plain PySem.F.entry_bexc_ga ?_)
  refine @check_slot (model prog w) _ _ ⟨hp, g, d, t + 1, os⟩ "BaseException.__getattribute__" "BaseException" "__getattribute__" (.ref x) [.str "__class__" t] [] _ (by decide +kernel) (by decide +kernel) sub (PySem.F.args_bexc_ga (.ref x) (.str "__class__" t)) ?_
  unfold Builtin.«object.__getattribute__»
  refine wpAny_bind (wpAny_of_eq (a := ((Value.ref x : Value), [Value.str "__class__" t])) (by first | rfl | (simp only [slotArgs]; rfl)) ?_)
  refine wpAny_bind (wpAny_pure (wpAny_bind (L0.at (wpAny_bind (L3.at ?_)))))
  show wpAny _ _ (holding [Value.builtin "object.__class__"] (call (.builtin "getset_descriptor.__get__") [.builtin "object.__class__", .ref x, .ref D]) >>= ret) _ _ _
  refine wpAny_bind (wpAny_holding (wpAny_call (class_get (s := ⟨hp, g, d, t + 1, os⟩) (ox := ox) (od := od) X I hm ?_)))
  refine wpAny_pure ?_
  show wpAny _ _ (handedOut (.ref D)) _ _ _
  rw [handedOut_of (v := .ref D) rfl]
  first
    | exact wpAny_pure (wpAny_pure h)
    | exact wpAny_pure h
    | exact wpAny_pure (wpAny_bind (wpAny_pure (wpAny_pure h)))
theorem kitx_excX (hga : findIn K (.ref D) "__getattribute__" = some (some (.builtin "BaseException.__getattribute__"))) (hgt : findIn K (.ref D) "__getattr__" = some none) (hsub : subIn K (.ref D) (.type "BaseException") = some true) (hdct : hasDictIn K D = true) (ha : findIn K (.ref D) "__class__" = some (some (.builtin "object.__class__")))
    (hn : specialIn K (.builtin "object.__class__") "__get__" = some (some (.builtin "getset_descriptor.__get__"))) (htk : takesIn K (.builtin "object.__class__") = some true) (hm : mroIn K D (.type "object") = some true) :
    KitX K (.ref x) (.ref D) (fun h => InstAt h x ox D od) where
  ty := fun _ _ _ I => I.type
  it := fun _ _ X _ => by
    obtain ⟨cdD, hcD, _⟩ := any_some hdct
    unfold clsIn at hcD
    split at hcD
    · rename_i c' d' cd' sl' ho
      intro A' Q' E' s' k q
      unfold isType loadHead
      exact wpAny_bind (wpAny_loadPart (k _ _ (X _ _ ho)) (wpAny_pure q))
    · cases hcD
  ne := fun h tp dd its n sl X htp => by
    obtain ⟨cdD, hcD, _⟩ := any_some hdct
    refine Bool.eq_false_iff.mpr fun q => ?_
    have e : D = tp := Value.ref.inj (beq_iff_eq.mp q)
    subst e
    unfold clsIn at hcD
    split at hcD
    · rename_i c' d' cd' sl' ho
      have z := (X _ _ ho).symm.trans htp
      cases z
    · cases hcD
  ca := fun X I k => kin_classX hga hgt hsub hdct ha hn htk hm X I k
end
end PySem.W
namespace L2
open PySem PySem.Spec PyProof.Rows
/-- isinstance(e, c), e the exception that the suite holds (class cls, dict d) -/
def rIsX (K : PySem.W.Frag) (a : Addr) (cls : Value) (d : Option Addr) : List V → Hp → VK → Prop := fun xs H Q => ∃ (D : Addr) (c : V) (cv : Value) (b : Bool), cls = .ref D ∧ ExcC K D ∧ xs = [.ref a, c] ∧ (∀ u, RelV c u → u = cv) ∧ PySem.W.kitOne K (.ref D) cv = some b ∧
  (∀ dd, d = some dd → ∃ fs, H dd = some (.xd fs)) ∧ Q (.bl b) H
theorem call_isX {X : Cx} {a : Addr} {cls : Value} {d : Option Addr} {oe : Obj} {pn : List (Addr × Obj)} (hz : Zc cls d oe) (hf : ∃ vs, oe.data = .fields vs) : CallR (X.suite a ((a, oe) :: pn)) (.builtin "isinstance") (rIsX X.K a cls d) := by
  intro pins s σ H xs us Q I r h
  obtain ⟨D, c, cv, b, rfl, C, rfl, hcv, e, hd, q⟩ := h
  cases r with
  | cons rx rr =>
    cases rr with
    | cons rt rr =>
      cases rr
      cases rx
      have ec := hcv _ rt
      subst ec
      obtain ⟨hget, _⟩ := I.pin (a, oe) (List.mem_append.mpr (.inl List.mem_cons_self))
      obtain ⟨vs, hv⟩ := hf
      have J : ∃ od, PySem.W.InstAt s.heap a oe D od := by
        cases d with
        | none =>
          refine ⟨none, ?_⟩
          obtain ⟨oc, od, oda, osl⟩ := oe
          obtain ⟨h1, h2⟩ := hz
          dsimp only at h1 h2 hv
          subst h1 h2 hv
          exact ⟨hget, rfl, rfl, trivial⟩
        | some dd =>
          obtain ⟨fs, hfs⟩ := hd dd rfl
          have hx : ObjOk X.prog X.w H s.heap dd (.xd fs) := I.hok dd _ hfs
          obtain ⟨mA, hns, hr⟩ := hx
          obtain ⟨od, ho, hl⟩ := lookIn_ns hns
          exact ⟨some od, ⟨hget, hz.1, by unfold PySem.W.notCls; rw [hv] <;> rfl, by rw [hz.2]; exact ho⟩⟩
      obtain ⟨od, J⟩ := J
      exact PySem.W.kia_one (PySem.W.kitx_excX C.hg C.hk C.hs C.hd C.ha C.hn C.ht C.hm) I.kIn J e (fun z => nomatch z) fun tk => ⟨.bl b, H, I.kept (t' := tk) fun _ _ z => z, rfl, q⟩
section
variable {K : PySem.W.Frag} {D F : Addr}
theorem kit_yes (hd : PySem.W.hasDictIn K F = true) (ht : PySem.W.typeIn K (.ref F) = some (.type "type")) (h : PySem.W.subIn K (.ref D) (.ref F) = some true) : PySem.W.kitOne K (.ref D) (.ref F) = some true := by
  unfold PySem.W.kitOne
  split
  · rfl
  · obtain ⟨cd, hc, _⟩ := PySem.W.any_some hd
    show (if ((PySem.W.clsIn K F).isSome && PySem.W.typeIn K (.ref F) == some (.type "type")) = true then PySem.W.subIn K (.ref D) (.ref F) else none) = some true
    rw [hc, ht]; exact h
theorem kit_no (hd : PySem.W.hasDictIn K F = true) (ht : PySem.W.typeIn K (.ref F) = some (.type "type")) (h0 : PySem.W.subIn K (.ref D) (.ref D) = some true) (h : PySem.W.subIn K (.ref D) (.ref F) = some false) : PySem.W.kitOne K (.ref D) (.ref F) = some false := by
  have hne : (Value.ref D == Value.ref F) = false := by
    refine beq_eq_false_iff_ne.mpr fun z => ?_
    cases z
    rw [h] at h0; cases h0
  unfold PySem.W.kitOne
  rw [hne, if_neg (by decide)]
  obtain ⟨cd, hc, _⟩ := PySem.W.any_some hd
  show (if ((PySem.W.clsIn K F).isSome && PySem.W.typeIn K (.ref F) == some (.type "type")) = true then PySem.W.subIn K (.ref D) (.ref F) else none) = some false
  rw [hc, ht]; exact h
theorem kit_ve (h : PySem.W.subIn K (.ref D) (.type "ValueError") = some true) : PySem.W.kitOne K (.ref D) (.type "ValueError") = some true := by
  have hne : (Value.ref D == Value.type "ValueError") = false := beq_eq_false_iff_ne.mpr fun z => by cases z
  unfold PySem.W.kitOne
  rw [hne, if_neg (by decide)]
  show (if PySem.W.kitMeta "ValueError" = true then PySem.W.subIn K (.ref D) (.type "ValueError") else none) = some true
  rw [if_pos (by decide +kernel)]; exact h
end
end L2

/-! # Pure states: values without addresses; lists and dicts as cells -/
namespace Y
open PySem L2
inductive AV where
  | d (x : PyData)
  | tup (xs : List AV)
  | cel (i : Nat)
  | sub (i j : Nat)
  | scr (ds : List PyData)
  | ty (s : String)
  | dct
  | raw (a : Addr)
  | exn (a d : Addr) (f : Str) (x : AV)
/-- what a cell of its own kind says of its addresses -/
structure CPred where
  P : Hp → Hp → List Addr → Prop
  mono : ∀ {F F' H H' : Hp} {own : List Addr}, P F H own → Same F F' → (∀ b ∈ own, ∀ o, H b = some o → H' b = some o) → P F' H' own
inductive Cell where
  | l (ds : List PyData)
  | a (xs : List AV)
  | k (lk : Option (Obj × List (Key × V))) (kvs : List (Key × AV))
  | g (ix : List Nat) (rows : List (List PyData))
  | m (lk : Option Obj) (ks : List (Key × Nat)) (rows : List (List PyData))
  | x
  | o (φ : CPred)
abbrev Own := List (List Addr)
abbrev AEnv := List (Option AV)
def ScrA (K : PySem.W.Frag) (C : Addr) (F : Hp) (a : Addr) (ds : List PyData) : Prop := ∃ dx v, F a = some (.ins C dx (putF "kept_steps" v [])) ∧ Dp K F v (.tuple ds)
mutual
inductive AR (K : PySem.W.Frag) (C : Addr) (F : Hp) (as : Own) : AV → V → Prop
  | d {x : PyData} {v : V} : Dp K F v x → AR K C F as (.d x) v
  | tup {a : Addr} {vs : List V} {xs : List AV} : SqT K F a vs → ARs K C F as xs vs → AR K C F as (.tup xs) (.ref a)
  | cel {i : Nat} {p : Addr} {r : List Addr} : as[i]? = some (p :: r) → AR K C F as (.cel i) (.ref p)
  | sub {i j : Nat} {q : Addr} {own : List Addr} : as[i]? = some own → own[j + 1]? = some q → AR K C F as (.sub i j) (.ref q)
  | scr {a : Addr} {ds : List PyData} : ScrA K C F a ds → AR K C F as (.scr ds) (.ref a)
  | ty {s : String} : AR K C F as (.ty s) (.ty s)
  | dct {p : Addr} : F p = some (.dK []) → AR K C F as .dct (.ref p)
  | raw {a : Addr} : AR K C F as (.raw a) (.ref a)
  | exn {a d : Addr} {f : Str} {x : AV} {v : V} : F d = some (.xd [(f, v)]) → AR K C F as x v → AR K C F as (.exn a d f x) (.ref a)
inductive ARs (K : PySem.W.Frag) (C : Addr) (F : Hp) (as : Own) : List AV → List V → Prop
  | nil : ARs K C F as [] []
  | cons {x : AV} {v : V} {xs : List AV} {vs : List V} : AR K C F as x v → ARs K C F as xs vs → ARs K C F as (x :: xs) (v :: vs)
end
def Pre (as as' : Own) : Prop := ∀ (i : Nat) (own : List Addr), as[i]? = some own → ∃ r, as'[i]? = some (own ++ r)
section
variable {K : PySem.W.Frag} {C : Addr} {F F' H H' : Hp} {as as' : Own}
theorem ScrA.same {a : Addr} {ds : List PyData} (s : Same F F') (h : ScrA K C F a ds) : ScrA K C F' a ds := by
  obtain ⟨dx, v, h1, h2⟩ := h
  exact ⟨dx, v, s _ _ h1, s.dp h2⟩
mutual
theorem AR.mono (s : Same F F') (p : Pre as as') : ∀ {x : AV} {v : V}, AR K C F as x v → AR K C F' as' x v
  | .d _, _, h => by cases h with | d h => exact .d (s.dp h)
  | .tup _, _, h => by cases h with | tup h1 h2 => exact .tup (s.sqT h1) (ARs.mono s p h2)
  | .cel i, _, h => by
    cases h with | cel h =>
    obtain ⟨r, e⟩ := p _ _ h
    exact .cel e
  | .sub i j, _, h => by
    cases h with | sub h1 h2 =>
    obtain ⟨r, e⟩ := p _ _ h1
    exact .sub e (by rw [List.getElem?_append_left (List.getElem?_eq_some_iff.mp h2).1]; exact h2)
  | .scr _, _, h => by cases h with | scr h => exact .scr (h.same s)
  | .ty _, _, h => by cases h; exact .ty
  | .dct, _, h => by cases h with | dct h => exact .dct (s _ _ h)
  | .raw _, _, h => by cases h; exact .raw
  | .exn _ _ _ _, _, h => by cases h with | exn h1 h2 => exact .exn (s _ _ h1) (AR.mono s p h2)
theorem ARs.mono (s : Same F F') (p : Pre as as') : ∀ {xs : List AV} {vs : List V}, ARs K C F as xs vs → ARs K C F' as' xs vs
  | [], _, h => by cases h; exact .nil
  | x :: xs, _, h => by cases h with | cons h1 h2 => exact .cons (AR.mono s p h1) (ARs.mono s p h2)
end
theorem ARs.length : ∀ {xs : List AV} {vs : List V}, ARs K C F as xs vs → xs.length = vs.length
  | [], _, h => by cases h; rfl
  | x :: xs, _, h => by cases h with | cons _ h2 => simp [ARs.length h2]
theorem ARs.get : ∀ {xs : List AV} {vs : List V} {i : Nat} {x : AV}, ARs K C F as xs vs → xs[i]? = some x → ∃ v, vs[i]? = some v ∧ AR K C F as x v
  | [], _, _, _, _, e => by simp at e
  | x :: xs, _, 0, _, h, e => by
    cases h with | cons h1 h2 =>
    simp at e; subst e; exact ⟨_, rfl, h1⟩
  | x :: xs, _, i + 1, _, h, e => by
    cases h with | cons h1 h2 =>
    obtain ⟨v, e1, e2⟩ := ARs.get (i := i) h2 (by simpa using e)
    exact ⟨v, by simpa using e1, e2⟩
theorem ARs.append : ∀ {xs ys : List AV} {vs ws : List V}, ARs K C F as xs vs → ARs K C F as ys ws → ARs K C F as (xs ++ ys) (vs ++ ws)
  | [], _, _, _, h, g => by cases h; exact g
  | x :: xs, _, _, _, h, g => by cases h with | cons h1 h2 => exact .cons h1 (ARs.append h2 g)
theorem ARs.set : ∀ {xs : List AV} {vs : List V} {x : AV} {v : V} (i : Nat), ARs K C F as xs vs → AR K C F as x v → ARs K C F as (xs.set i x) (vs.set i v)
  | [], _, _, _, _, h, _ => by cases h; exact .nil
  | _ :: _, _, _, _, 0, h, g => by cases h with | cons h1 h2 => exact .cons g h2
  | _ :: _, _, _, _, i + 1, h, g => by cases h with | cons h1 h2 => exact .cons h1 (ARs.set i h2 g)
theorem ARs.take : ∀ {xs : List AV} {vs : List V} (n : Nat), ARs K C F as xs vs → ARs K C F as (xs.take n) (vs.take n)
  | _, _, 0, _ => by simp; exact .nil
  | [], _, n + 1, h => by cases h; exact .nil
  | _ :: _, _, n + 1, h => by cases h with | cons h1 h2 => exact .cons h1 (ARs.take n h2)
theorem ARs.data : ∀ {ds : List PyData} {vs : List V}, DpAll K F vs ds → ARs K C F as (ds.map AV.d) vs
  | [], _, h => by cases h; exact .nil
  | d :: ds, _, h => by cases h with | cons h1 h2 => exact .cons (.d h1) (ARs.data h2)
theorem ARs.toData : ∀ {ds : List PyData} {vs : List V}, ARs K C F as (ds.map AV.d) vs → DpAll K F vs ds
  | [], _, h => by cases h; exact .nil
  | d :: ds, _, h => by cases h with | cons h1 h2 => cases h1 with | d h1 => exact .cons h1 (ARs.toData h2)
theorem Pre.refl : Pre as as := fun i own h => ⟨[], by rw [List.append_nil]; exact h⟩
theorem Pre.trans {as'' : Own} (a : Pre as as') (b : Pre as' as'') : Pre as as'' := fun i own h => by
  obtain ⟨r, e⟩ := a i own h
  obtain ⟨q, e2⟩ := b i _ e
  exact ⟨r ++ q, by rw [e2, List.append_assoc]⟩
theorem Pre.snoc {own : List Addr} : Pre as (as ++ [own]) := fun i o h => ⟨[], by rw [List.getElem?_append_left (List.getElem?_eq_some_iff.mp h).1, List.append_nil]; exact h⟩
/-- rows of a grid -/
inductive GridOk (K : PySem.W.Frag) (F H : Hp) : List Addr → List (List PyData) → Prop
  | nil : GridOk K F H [] []
  | cons {q : Addr} {qs : List Addr} {vs : List V} {r : List PyData} {rs : List (List PyData)} : H q = some (.lst vs) → DpAll K F vs r → GridOk K F H qs rs → GridOk K F H (q :: qs) (r :: rs)
/-- locked or not -/
def lkO : Option Obj → HO → HO
  | none, u => u
  | some o, u => .frz o u
/-- while it is locked, what stood there -/
def lkK : Option (Obj × List (Key × V)) → List (Key × V) → Prop
  | none, _ => True
  | some x, kvs => kvs = x.2
def rowsV (qs : List Addr) (ix : List Nat) : List V := ix.map fun j => V.ref (qs.getD j 0)
def rowsK (qs : List Addr) (ks : List (Key × Nat)) : List (Key × V) := ks.map fun x => (x.1, V.ref (qs.getD x.2 0))
inductive CellOk (K : PySem.W.Frag) (C : Addr) (F : Hp) (as : Own) (H : Hp) : List Addr → Cell → Prop
  | l {p : Addr} {vs : List V} {ds : List PyData} : H p = some (.lst vs) → DpAll K F vs ds → CellOk K C F as H [p] (.l ds)
  | a {p : Addr} {vs : List V} {xs : List AV} : H p = some (.lst vs) → ARs K C F as xs vs → CellOk K C F as H [p] (.a xs)
  | k {p : Addr} {lk : Option (Obj × List (Key × V))} {kvs : List (Key × V)} {xs : List (Key × AV)} : lkK lk kvs → H p = some (lkO (lk.map Prod.fst) (.dK kvs)) → kvs.map Prod.fst = xs.map Prod.fst → ARs K C F as (xs.map Prod.snd) (kvs.map Prod.snd) → CellOk K C F as H [p] (.k lk xs)
  | g {p : Addr} {qs : List Addr} {ix : List Nat} {rows : List (List PyData)} : H p = some (.lst (rowsV qs ix)) → (∀ j ∈ ix, j < rows.length) → GridOk K F H qs rows → CellOk K C F as H (p :: qs) (.g ix rows)
  | m {p : Addr} {qs : List Addr} {lk : Option Obj} {ks : List (Key × Nat)} {rows : List (List PyData)} : H p = some (lkO lk (.dK (rowsK qs ks))) → (∀ x ∈ ks, x.2 < rows.length) → GridOk K F H qs rows → CellOk K C F as H (p :: qs) (.m lk ks rows)
  | x {own : List Addr} : CellOk K C F as H own .x
  | o {own : List Addr} {φ : CPred} : φ.P F H own → CellOk K C F as H own (.o φ)
/-- no tuple -/
def NoTup : HO → Prop
  | .tup _ => False
  | .frz _ u => match u with
    | .tup _ => False
    | _ => True
  | _ => True
structure Wd (K : PySem.W.Frag) (C : Addr) (F : Hp) (as : Own) (cs : List Cell) (H : Hp) : Prop where
  fro : Same F H
  dis : ∀ (i : Nat) own, as[i]? = some own → ∀ b ∈ own, F b = none ∧ H b ≠ none
  sep : ∀ (i j : Nat) own own', as[i]? = some own → as[j]? = some own' → i ≠ j → ∀ b ∈ own, b ∉ own'
  nd : ∀ (i : Nat) own, as[i]? = some own → own.Nodup
  len : as.length = cs.length
  ok : ∀ (i : Nat) own c, as[i]? = some own → cs[i]? = some c → CellOk K C F as H own c
  mu : ∀ (i : Nat) own, as[i]? = some own → ∀ b ∈ own, ∀ o, H b = some o → NoTup o
  tp : ∀ b o, H b = some o → ¬ NoTup o → F b = some o
/-- b is one of the cells' addresses -/
def inA (as : Own) (b : Addr) : Prop := ∃ (i : Nat) (own : List Addr), as[i]? = some own ∧ b ∈ own
/-- from one world to a later one; the first n cells are what they were -/
structure Stp (n : Nat) (F : Hp) (as : Own) (H : Hp) (F' : Hp) (as' : Own) (H' : Hp) : Prop where
  f : Same F F'
  a : ∀ i < n, ∀ own, as[i]? = some own → ∃ r, as'[i]? = some (own ++ r)
  fr : ∀ b o, H b = some o → ¬ inA as b → H' b = some o
  dm : ∀ b, H' b = none → H b = none
  nf : ∀ b o, F' b = some o → F b = some o ∨ H b = none
  na : ∀ b, inA as' b → inA as b ∨ H b = none
theorem Stp.refl {n : Nat} : Stp n F as H F as H := ⟨Same.refl F, fun i _ own h => ⟨[], by rw [List.append_nil]; exact h⟩, fun _ _ h _ => h, fun _ h => h, fun _ _ h => .inl h, fun _ h => .inl h⟩
theorem Stp.trans {n : Nat} {F'' : Hp} {as'' : Own} {H'' : Hp} (s : Stp n F as H F' as' H') (t : Stp n F' as' H' F'' as'' H'') : Stp n F as H F'' as'' H'' := by
  refine ⟨s.f.trans t.f, fun i hi own h => ?_, fun b o h hn => ?_, fun b h => s.dm b (t.dm b h), fun b o h => ?_, fun b h => ?_⟩
  · obtain ⟨r, e⟩ := s.a i hi own h
    obtain ⟨q, e2⟩ := t.a i hi _ e
    exact ⟨r ++ q, by rw [e2, List.append_assoc]⟩
  · refine t.fr b o (s.fr b o h hn) fun z => ?_
    rcases s.na b z with z | z
    · exact hn z
    · rw [h] at z; cases z
  · rcases t.nf b o h with z | z
    · exact s.nf b o z
    · exact .inr (s.dm b z)
  · rcases t.na b h with z | z
    · exact s.na b z
    · exact .inr (s.dm b z)
theorem Stp.weak {n m : Nat} (s : Stp n F as H F' as' H') (h : m ≤ n) : Stp m F as H F' as' H' := ⟨s.f, fun i hi => s.a i (Nat.lt_of_lt_of_le hi h), s.fr, s.dm, s.nf, s.na⟩
theorem Stp.pre (s : Stp as.length F as H F' as' H') : Pre as as' := fun i own h => s.a i (List.getElem?_eq_some_iff.mp h).1 own h
theorem Pre.len (p : Pre as as') : as.length ≤ as'.length := by
  refine Nat.le_of_not_lt fun h => ?_
  obtain ⟨r, e⟩ := p as'.length as[as'.length] (List.getElem?_eq_getElem h)
  rw [List.getElem?_eq_none (Nat.le_refl _)] at e; cases e
theorem Stp.len {n : Nat} (s : Stp n F as H F' as' H') (h : n ≤ as.length) : n ≤ as'.length := by
  refine Nat.le_of_not_lt fun h2 => ?_
  have h3 : as'.length < as.length := Nat.lt_of_lt_of_le h2 h
  obtain ⟨r, e⟩ := s.a as'.length h2 as[as'.length] (List.getElem?_eq_getElem h3)
  rw [List.getElem?_eq_none (Nat.le_refl _)] at e; cases e
theorem Stp.tr {F'' : Hp} {as'' : Own} {H'' : Hp} (s : Stp as.length F as H F' as' H') (t : Stp as'.length F' as' H' F'' as'' H'') : Stp as.length F as H F'' as'' H'' := s.trans (t.weak s.pre.len)
/-! ### the environment -/
structure EnvR (K : PySem.W.Frag) (C : Addr) (F : Hp) (as : Own) (E : AEnv) (σ : St) : Prop where
  len : E.length = σ.length
  get : ∀ (i : Nat) x, E[i]? = some (some x) → ∃ v, σ[i]? = some (some v) ∧ AR K C F as x v
theorem EnvR.mono {E : AEnv} {σ : St} (e : EnvR K C F as E σ) (s : Same F F') (p : Pre as as') : EnvR K C F' as' E σ := ⟨e.len, fun i x h => by
  obtain ⟨v, h1, h2⟩ := e.get i x h
  exact ⟨v, h1, h2.mono s p⟩⟩
theorem EnvR.set {E : AEnv} {σ : St} {i : Nat} {x : AV} {v : V} (e : EnvR K C F as E σ) (h : AR K C F as x v) : EnvR K C F as (E.set i (some x)) (σ.set i (some v)) := by
  refine ⟨by rw [List.length_set, List.length_set, e.len], fun j y hj => ?_⟩
  rw [List.getElem?_set] at hj
  rw [List.getElem?_set]
  by_cases c : i = j
  · subst c
    rw [if_pos rfl] at hj ⊢
    by_cases c2 : i < E.length
    · rw [if_pos c2] at hj
      rw [if_pos (by rw [← e.len]; exact c2)]
      cases hj
      exact ⟨v, rfl, h⟩
    · rw [if_neg c2] at hj; cases hj
  · rw [if_neg c] at hj ⊢
    exact e.get j y hj
/-! ### judgements -/
def Ev (K : PySem.W.Frag) (C : Addr) (E : AEnv) (cs : List Cell) (te : TE) (k : AV → List Cell → Prop) : Prop :=
  ∀ (F : Hp) (as : Own) (H : Hp) (σ : St) (Q : VK), Wd K C F as cs H → EnvR K C F as E σ →
    (∀ x cs' v F' as' H', k x cs' → Stp as.length F as H F' as' H' → Wd K C F' as' cs' H' → AR K C F' as' x v → Q v H') → te σ H Q
def Evs (K : PySem.W.Frag) (C : Addr) (E : AEnv) (cs : List Cell) (ta : TA) (k : List AV → List Cell → Prop) : Prop :=
  ∀ (F : Hp) (as : Own) (H : Hp) (σ : St) (Q : List V → Hp → Prop), Wd K C F as cs H → EnvR K C F as E σ →
    (∀ x cs' v F' as' H', k x cs' → Stp as.length F as H F' as' H' → Wd K C F' as' cs' H' → ARs K C F' as' x v → Q v H') → ta σ H Q
def Evt (K : PySem.W.Frag) (C : Addr) (E : AEnv) (cs : List Cell) (tt : TT) (k : Bool → List Cell → Prop) : Prop :=
  ∀ (F : Hp) (as : Own) (H : Hp) (σ : St) (Q : Bool → Hp → Prop), Wd K C F as cs H → EnvR K C F as E σ →
    (∀ b cs' F' as' H', k b cs' → Stp as.length F as H F' as' H' → Wd K C F' as' cs' H' → Q b H') → tt σ H Q
/-- what an error holds: a field, or nothing -/
inductive XP where
  | fld (f : Str) (x : AV)
  | no
def XR (K : PySem.W.Frag) (C : Addr) (F : Hp) (as : Own) : XP → Option Addr → Prop
  | .fld f x, d => ∃ a v, d = some a ∧ F a = some (.xd [(f, v)]) ∧ AR K C F as x v
  | .no, d => d = none
theorem XR.mono {p : XP} {d : Option Addr} (s : Same F F') (q : Pre as as') (h : XR K C F as p d) : XR K C F' as' p d := by
  cases p with
  | no => exact h
  | fld f x =>
    obtain ⟨a, v, h1, h2, h3⟩ := h
    exact ⟨a, v, h1, s _ _ h2, h3.mono s q⟩
structure AEnds where
  nx : AEnv → List Cell → Prop
  rt : AV → List Cell → Prop
  bk : AEnv → List Cell → Prop := fun _ _ => False
  ct : AEnv → List Cell → Prop := fun _ _ => False
  W : WX := fun _ _ _ _ => True
  ex : Addr → XP → AEnv → List Cell → Prop := fun _ _ _ _ => False
structure EndsR (K : PySem.W.Frag) (C : Addr) (n : Nat) (F : Hp) (as : Own) (H : Hp) (D : AEnds) (Dc : Ends) : Prop where
  nx : ∀ E cs F' as' H' σ, D.nx E cs → Stp n F as H F' as' H' → Wd K C F' as' cs H' → EnvR K C F' as' E σ → Dc.nx σ H'
  rt : ∀ x cs F' as' H' v, D.rt x cs → Stp n F as H F' as' H' → Wd K C F' as' cs H' → AR K C F' as' x v → Dc.rt v H'
  bk : ∀ E cs F' as' H' σ, D.bk E cs → Stp n F as H F' as' H' → Wd K C F' as' cs H' → EnvR K C F' as' E σ → Dc.bk σ H'
  ct : ∀ E cs F' as' H' σ, D.ct E cs → Stp n F as H F' as' H' → Wd K C F' as' cs H' → EnvR K C F' as' E σ → Dc.ct σ H'
  ex : ∀ c p E cs F' as' H' σ d, D.ex c p E cs → Stp n F as H F' as' H' → Wd K C F' as' cs H' → EnvR K C F' as' E σ → XR K C F' as' p d → D.W (.ref c) d σ H'
theorem EndsR.later {n : Nat} {D : AEnds} {Dc : Ends} (e : EndsR K C n F as H D Dc) (s : Stp n F as H F' as' H') : EndsR K C n F' as' H' D Dc :=
  ⟨fun E cs _ _ _ _ h t => e.nx E cs _ _ _ _ h (s.trans t), fun x cs _ _ _ _ h t => e.rt x cs _ _ _ _ h (s.trans t), fun E cs _ _ _ _ h t => e.bk E cs _ _ _ _ h (s.trans t), fun E cs _ _ _ _ h t => e.ct E cs _ _ _ _ h (s.trans t), fun c p E cs _ _ _ _ d h t => e.ex c p E cs _ _ _ _ d h (s.trans t)⟩
def Ex (K : PySem.W.Frag) (C : Addr) (n : Nat) (E : AEnv) (cs : List Cell) (t : TS) (D : AEnds) : Prop :=
  ∀ (F : Hp) (as : Own) (H : Hp) (σ : St) (Dc : Ends), n ≤ cs.length → Wd K C F as cs H → EnvR K C F as E σ → EndsR K C n F as H D Dc → t Dc σ H
end
end Y

/-! # Pure states: the world's changes, and the rules -/
namespace Y
open PySem L2
section
variable {K : PySem.W.Frag} {C : Addr} {F F' H H' : Hp} {as as' : Own} {cs cs' : List Cell}
theorem GridOk.mono (s : Same F F') : ∀ {qs : List Addr} {rs : List (List PyData)}, (∀ b ∈ qs, ∀ o, H b = some o → H' b = some o) → GridOk K F H qs rs → GridOk K F' H' qs rs
  | [], _, _, h => by cases h; exact .nil
  | q :: qs, _, k, h => by cases h with | cons h1 h2 h3 => exact .cons (k q (by simp) _ h1) (s.dpAll h2) (GridOk.mono s (fun b hb => k b (List.mem_cons_of_mem q hb)) h3)
theorem GridOk.get : ∀ {qs : List Addr} {rs : List (List PyData)} {j : Nat} {q : Addr} {r : List PyData}, GridOk K F H qs rs → qs[j]? = some q → rs[j]? = some r → ∃ vs, H q = some (.lst vs) ∧ DpAll K F vs r
  | _, _, _, _, _, .nil, h, _ => by simp at h
  | _, _, 0, _, _, .cons h1 h2 _, h, g => by
    simp at h g; subst h; subst g
    exact ⟨_, h1, h2⟩
  | _, _, j + 1, _, _, .cons _ _ h3, h, g => GridOk.get (j := j) h3 (by simpa using h) (by simpa using g)
theorem GridOk.len : ∀ {qs : List Addr} {rs : List (List PyData)}, GridOk K F H qs rs → qs.length = rs.length
  | _, _, .nil => rfl
  | _, _, .cons _ _ h => by simp [GridOk.len h]
theorem CellOk.mono {own : List Addr} {c : Cell} (h : CellOk K C F as H own c) (s : Same F F') (p : Pre as as') (k : ∀ b ∈ own, ∀ o, H b = some o → H' b = some o) : CellOk K C F' as' H' own c := by
  cases h with
  | l h1 h2 => exact .l (k _ (by simp) _ h1) (s.dpAll h2)
  | a h1 h2 => exact .a (k _ (by simp) _ h1) (h2.mono s p)
  | k h0 h1 h2 h3 => exact .k h0 (k _ (by simp) _ h1) h2 (h3.mono s p)
  | g h1 h2 h3 => exact .g (k _ (by simp) _ h1) h2 (h3.mono s fun b hb => k b (List.mem_cons_of_mem _ hb))
  | m h1 h2 h3 => exact .m (k _ (by simp) _ h1) h2 (h3.mono s fun b hb => k b (List.mem_cons_of_mem _ hb))
  | x => exact .x
  | o h => exact .o (CPred.mono _ h s k)
theorem Wd.newF (w : Wd K C F as cs H) {p : Addr} (hp : H p = none) (o : HO) : Wd K C (upd F p o) as cs (upd H p o) ∧ Stp as.length F as H (upd F p o) as (upd H p o) ∧ Same F (upd F p o) := by
  have hF : F p = none := w.fro.free hp
  have sF : Same F (upd F p o) := Same.new hF
  have sH : Same H (upd H p o) := Same.new hp
  have nb : ∀ {i own}, as[i]? = some own → ∀ b ∈ own, b ≠ p := fun hi b hb z => (w.dis _ _ hi b hb).2 (z ▸ hp)
  refine ⟨⟨fun b u h => ?_, fun i own hi b hb => ?_, w.sep, w.nd, w.len, fun i own c hi hc => (w.ok i own c hi hc).mono sF Pre.refl fun b _ o h => sH b o h, fun i own hi b hb u h => ?_, fun b u h n => ?_⟩, ⟨sF, fun i _ own h => ⟨[], by rw [List.append_nil]; exact h⟩, fun b u h _ => sH b u h, fun b h => (updN0 h).2, fun b u h => ?_, fun b h => .inl h⟩, sF⟩
  · by_cases e : b = p
    · subst e; rw [upd_same] at h ⊢; exact h
    · rw [upd_ne e] at h ⊢; exact w.fro b u h
  · have e := nb hi b hb
    rw [upd_ne e, upd_ne e]; exact w.dis i own hi b hb
  · rw [upd_ne (nb hi b hb)] at h; exact w.mu i own hi b hb u h
  · by_cases e : b = p
    · subst e; rw [upd_same] at h ⊢; exact h
    · rw [upd_ne e] at h ⊢; exact w.tp b u h n
  · by_cases e : b = p
    · subst e; exact .inr hp
    · rw [upd_ne e] at h; exact .inl h
where
  updN0 {H : Hp} {p x : Addr} {o : HO} (h : upd H p o x = none) : x ≠ p ∧ H x = none := by
    unfold upd at h
    split at h
    · cases h
    · exact ⟨by assumption, h⟩
theorem get_snoc {α : Type} {l : List α} {a x : α} {i : Nat} (h : (l ++ [a])[i]? = some x) : l[i]? = some x ∨ i = l.length ∧ x = a := by
  rcases Nat.lt_trichotomy i l.length with c | c | c
  · rw [List.getElem?_append_left c] at h; exact .inl h
  · subst c; rw [List.getElem?_append_right (Nat.le_refl _)] at h; simp at h; exact .inr ⟨rfl, h.symm⟩
  · rw [List.getElem?_eq_none (by simp; omega)] at h; cases h
theorem Wd.newC (w : Wd K C F as cs H) {p : Addr} {o : HO} {c : Cell} (hp : H p = none) (ho : NoTup o) (hc : CellOk K C F (as ++ [[p]]) (upd H p o) [p] c) :
    Wd K C F (as ++ [[p]]) (cs ++ [c]) (upd H p o) ∧ Stp as.length F as H F (as ++ [[p]]) (upd H p o) := by
  have hF : F p = none := w.fro.free hp
  have sH : Same H (upd H p o) := Same.new hp
  have nb : ∀ {i own}, as[i]? = some own → ∀ b ∈ own, b ≠ p := fun hi b hb z => (w.dis _ _ hi b hb).2 (z ▸ hp)
  refine ⟨⟨fun b u h => sH b u (w.fro b u h), fun i own hi b hb => ?_, fun i j own own' hi hj hij b hb => ?_, fun i own hi => ?_, by simp [w.len], fun i own c' hi hc' => ?_, fun i own hi b hb u h => ?_, fun b u h n => ?_⟩, ⟨Same.refl F, fun i hi own h => Pre.snoc i own h, fun b u h _ => sH b u h, fun b h => (Wd.newF.updN0 h).2, fun b u h => .inl h, fun b ⟨i, own, hi, hb⟩ => ?_⟩⟩
  · rcases get_snoc hi with hi | ⟨rfl, rfl⟩
    · rw [upd_ne (nb hi b hb)]; exact w.dis i own hi b hb
    · rw [List.mem_singleton.mp hb, upd_same]; exact ⟨hF, by simp⟩
  · rcases get_snoc hi with hi | ⟨rfl, rfl⟩ <;> rcases get_snoc hj with hj | ⟨rfl, rfl⟩
    · exact w.sep i j own own' hi hj hij b hb
    · intro z; exact nb hi b hb (List.mem_singleton.mp z)
    · rw [List.mem_singleton.mp hb]; intro z; exact nb hj p z rfl
    · exact absurd rfl hij
  · rcases get_snoc hi with hi | ⟨rfl, rfl⟩
    · exact w.nd i own hi
    · simp
  · rcases get_snoc hi with hi | ⟨rfl, rfl⟩
    · rw [List.getElem?_append_left (by rw [← w.len]; exact (List.getElem?_eq_some_iff.mp hi).1)] at hc'
      exact (w.ok i own c' hi hc').mono (Same.refl F) Pre.snoc fun b _ o h => sH b o h
    · rw [w.len] at hc'
      rcases get_snoc hc' with z | ⟨_, rfl⟩
      · rw [List.getElem?_eq_none (Nat.le_refl _)] at z; cases z
      · exact hc
  · rcases get_snoc hi with hi | ⟨rfl, rfl⟩
    · rw [upd_ne (nb hi b hb)] at h; exact w.mu i own hi b hb u h
    · rw [List.mem_singleton.mp hb, upd_same] at h; cases h; exact ho
  · by_cases e : b = p
    · subst e; rw [upd_same] at h; cases h; exact absurd ho n
    · rw [upd_ne e] at h; exact w.tp b u h n
  · rcases get_snoc hi with hi | ⟨rfl, rfl⟩
    · exact .inl ⟨i, own, hi, hb⟩
    · rw [List.mem_singleton.mp hb]; exact .inr hp
theorem Wd.put (w : Wd K C F as cs H) {i : Nat} {own : List Addr} {p : Addr} {o : HO} {c : Cell} (hi : as[i]? = some own) (hp : p ∈ own) (ho : NoTup o) (hc : CellOk K C F as (upd H p o) own c) :
    Wd K C F as (cs.set i c) (upd H p o) ∧ Stp as.length F as H F as (upd H p o) := by
  have d := w.dis i own hi p hp
  have ne : ∀ b u, F b = some u → b ≠ p := fun b u h z => by rw [z, d.1] at h; cases h
  have nn : ∀ {b}, upd H p o b = none → H b = none := fun h => (Wd.newF.updN0 h).2
  refine ⟨⟨fun b u h => by rw [upd_ne (ne b u h)]; exact w.fro b u h, fun j own' hj b hb => ?_, w.sep, w.nd, by rw [List.length_set]; exact w.len, fun j own' c' hj hc' => ?_, fun j own' hj b hb u h => ?_, fun b u h n => ?_⟩, ⟨Same.refl F, fun j _ own h => ⟨[], by rw [List.append_nil]; exact h⟩, fun b u h n => ?_, fun b h => nn h, fun b u h => .inl h, fun b h => .inl h⟩⟩
  · exact ⟨(w.dis j own' hj b hb).1, fun z => (w.dis j own' hj b hb).2 (nn z)⟩
  · rw [List.getElem?_set] at hc'
    by_cases e : i = j
    · subst e
      rw [if_pos rfl] at hc'
      rw [hi] at hj; cases hj
      split at hc'
      · cases hc'; exact hc
      · cases hc'
    · rw [if_neg e] at hc'
      refine (w.ok j own' c' hj hc').mono (Same.refl F) Pre.refl fun b hb u h => ?_
      have nz : b ≠ p := fun z => w.sep i j own own' hi hj e p hp (by rw [← z]; exact hb)
      rw [upd_ne nz]; exact h
  · by_cases e : b = p
    · subst e; rw [upd_same] at h; cases h; exact ho
    · rw [upd_ne e] at h; exact w.mu j own' hj b hb u h
  · by_cases e : b = p
    · subst e; rw [upd_same] at h; cases h; exact absurd ho n
    · rw [upd_ne e] at h; exact w.tp b u h n
  · have nz : b ≠ p := fun z => n ⟨i, own, hi, by rw [z]; exact hp⟩
    rw [upd_ne nz]; exact h
mutual
theorem Wd.imm (w : Wd K C F as cs H) : ∀ {d : PyData} {v : V}, imm d = true → Dp K H v d → Dp K F v d
  | .none, _, _, h => by cases h; exact .non
  | .bool b, _, _, h => by cases h; exact .bl b
  | .int i, _, _, h => by cases h; exact .int i
  | .str s, _, _, h => by cases h; exact .str s
  | .list ds, _, i, _ => by simp [L2.imm] at i
  | .dict ds, _, i, _ => by simp [L2.imm] at i
  | .tuple ds, _, i, h => by
    cases h with
    | tup h1 h2 =>
      refine .tup ?_ (Wd.immAll w (by simpa [L2.imm] using i) h2)
      rcases h1 with (h1 | ⟨o, h1⟩) | h1
      · exact .inl (.inl (w.tp _ _ h1 fun z => z))
      · exact .inl (.inr ⟨o, w.tp _ _ h1 fun z => z⟩)
      · exact .inr h1
theorem Wd.immAll (w : Wd K C F as cs H) : ∀ {ds : List PyData} {vs : List V}, immAll ds = true → DpAll K H vs ds → DpAll K F vs ds
  | [], _, _, h => by cases h; exact .nil
  | d :: ds, _, i, h => by
    simp only [L2.immAll, Bool.and_eq_true] at i
    cases h with
    | cons h1 h2 => exact .cons (Wd.imm w i.1 h1) (Wd.immAll w i.2 h2)
end
/-- what is new is frozen -/
def absF (F H H' : Hp) : Hp := fun b => match H b with
  | none => H' b
  | some _ => F b
theorem absF_new {b : Addr} (h : H b = none) : absF F H H' b = H' b := by unfold absF; rw [h]
theorem absF_old {b : Addr} {o : HO} (h : H b = some o) : absF F H H' b = F b := by unfold absF; rw [h]
theorem absF_same (s : Same F H) : Same F (absF F H H') := fun b o h => by rw [absF_old (s b o h)]; exact h
theorem Wd.absorb (w : Wd K C F as cs H) (k : ∀ b o, H b = some o → ¬ inA as b → H' b = some o) (dm : ∀ b, H' b = none → H b = none) (hl : cs'.length = cs.length)
    (hc : ∀ (i : Nat) own c, as[i]? = some own → cs'[i]? = some c → CellOk K C (absF F H H') as H' own c) (hm : ∀ (i : Nat) own, as[i]? = some own → ∀ b ∈ own, ∀ o, H' b = some o → NoTup o) :
    Wd K C (absF F H H') as cs' H' ∧ Stp as.length F as H (absF F H H') as H' := by
  have nF : ∀ b o, F b = some o → ¬ inA as b := fun b o h ⟨i, own, hi, hb⟩ => by rw [(w.dis i own hi b hb).1] at h; cases h
  refine ⟨⟨fun b o h => ?_, fun i own hi b hb => ?_, w.sep, w.nd, by rw [hl]; exact w.len, hc, hm, fun b o h n => ?_⟩, ⟨absF_same w.fro, fun i _ own h => ⟨[], by rw [List.append_nil]; exact h⟩, k, dm, fun b o h => ?_, fun b h => .inl h⟩⟩
  · cases e : H b with
    | none => rw [absF_new e] at h; exact h
    | some u => rw [absF_old e] at h; exact k b o (w.fro b o h) (nF b o h)
  · have d := w.dis i own hi b hb
    refine ⟨?_, fun z => d.2 (dm b z)⟩
    cases e : H b with
    | none => exact absurd e d.2
    | some u => rw [absF_old e]; exact d.1
  · cases e : H b with
    | none => rw [absF_new e]; exact h
    | some u =>
      rw [absF_old e]
      by_cases z : inA as b
      · obtain ⟨i, own, hi, hb⟩ := z
        exact absurd (hm i own hi b hb o h) n
      · have := k b u e z
        rw [h] at this; cases this
        exact w.tp b o e n
  · cases e : H b with
    | none => exact .inr rfl
    | some u => rw [absF_old e] at h; exact .inl h
theorem Wd.same (w : Wd K C F as cs H) (s : Same H H') : Wd K C (absF F H H') as cs H' ∧ Stp as.length F as H (absF F H H') as H' :=
  w.absorb (fun b o h _ => s b o h) (fun b h => s.free h) rfl (fun i own c hi hc => (w.ok i own c hi hc).mono (absF_same w.fro) Pre.refl fun b _ o h => s b o h) fun i own hi b hb o h => by
    cases e : H b with
    | none => exact absurd e (w.dis i own hi b hb).2
    | some u =>
      have := s b u e
      rw [h] at this; cases this
      exact w.mu i own hi b hb o e
theorem get_take {α : Type} {l : List α} {n i : Nat} {x : α} (h : (l.take n)[i]? = some x) : l[i]? = some x ∧ i < n := by
  rw [List.getElem?_take] at h
  split at h
  · exact ⟨h, by assumption⟩
  · cases h
mutual
def AV.lt (n : Nat) : AV → Bool
  | .d _ => true
  | .tup xs => AV.ltAll n xs
  | .cel i => decide (i < n)
  | .sub i _ => decide (i < n)
  | .scr _ => true
  | .ty _ => true
  | .dct => true
  | .raw _ => true
  | .exn _ _ _ x => AV.lt n x
def AV.ltAll (n : Nat) : List AV → Bool
  | [] => true
  | x :: xs => AV.lt n x && AV.ltAll n xs
end
def Cell.lt (n : Nat) : Cell → Bool
  | .a xs => AV.ltAll n xs
  | .k _ kvs => AV.ltAll n (kvs.map Prod.snd)
  | _ => true
mutual
theorem AR.cut {n : Nat} : ∀ {x : AV} {v : V}, AV.lt n x = true → AR K C F as x v → AR K C F (as.take n) x v
  | .d _, _, _, h => by cases h with | d h => exact .d h
  | .tup xs, _, l, h => by cases h with | tup h1 h2 => exact .tup h1 (ARs.cut (by simpa only [AV.lt] using l) h2)
  | .cel i, _, l, h => by
    cases h with | cel h =>
    simp only [AV.lt, decide_eq_true_eq] at l
    exact .cel (by rw [List.getElem?_take, if_pos l]; exact h)
  | .sub i j, _, l, h => by
    cases h with | sub h1 h2 =>
    simp only [AV.lt, decide_eq_true_eq] at l
    exact .sub (by rw [List.getElem?_take, if_pos l]; exact h1) h2
  | .scr _, _, _, h => by cases h with | scr h => exact .scr h
  | .ty _, _, _, h => by cases h; exact .ty
  | .dct, _, _, h => by cases h with | dct h => exact .dct h
  | .raw _, _, _, h => by cases h; exact .raw
  | .exn _ _ _ _, _, l, h => by cases h with | exn h1 h2 => exact .exn h1 (AR.cut (by simpa only [AV.lt] using l) h2)
theorem ARs.cut {n : Nat} : ∀ {xs : List AV} {vs : List V}, AV.ltAll n xs = true → ARs K C F as xs vs → ARs K C F (as.take n) xs vs
  | [], _, _, h => by cases h; exact .nil
  | x :: xs, _, l, h => by
    simp only [AV.ltAll, Bool.and_eq_true] at l
    cases h with | cons h1 h2 => exact .cons (AR.cut l.1 h1) (ARs.cut l.2 h2)
end
theorem CellOk.cut {n : Nat} {own : List Addr} {c : Cell} (h : CellOk K C F as H own c) (l : Cell.lt n c = true) : CellOk K C F (as.take n) H own c := by
  cases h with
  | l h1 h2 => exact .l h1 h2
  | a h1 h2 => exact .a h1 (h2.cut l)
  | k h0 h1 h2 h3 => exact .k h0 h1 h2 (h3.cut l)
  | g h1 h2 h3 => exact .g h1 h2 h3
  | m h1 h2 h3 => exact .m h1 h2 h3
  | x => exact .x
  | o h => exact .o h
theorem Wd.cut (w : Wd K C F as cs H) {n : Nat} (hl : ∀ c ∈ cs.take n, Cell.lt n c = true) : Wd K C F (as.take n) (cs.take n) H :=
  ⟨w.fro, fun i own hi => w.dis i own (get_take hi).1, fun i j own own' hi hj => w.sep i j own own' (get_take hi).1 (get_take hj).1, fun i own hi => w.nd i own (get_take hi).1, by rw [List.length_take, List.length_take, w.len],
    fun i own c hi hc => (w.ok i own c (get_take hi).1 (get_take hc).1).cut (hl c (List.mem_of_getElem? hc)), fun i own hi => w.mu i own (get_take hi).1, w.tp⟩
theorem Stp.cut {n m : Nat} (s : Stp n F as H F' as' H') (h : n ≤ m) : Stp n F as H F' (as'.take m) H' := ⟨s.f, fun i hi own ho => by
  obtain ⟨r, e⟩ := s.a i hi own ho
  exact ⟨r, by rw [List.getElem?_take, if_pos (by omega)]; exact e⟩, s.fr, s.dm, s.nf, fun b ⟨i, own, hi, hb⟩ => s.na b ⟨i, own, (get_take hi).1, hb⟩⟩
end
end Y

/-! # Pure states: rules for expressions and statements -/
namespace Y
open PySem L2
section
variable {K : PySem.W.Frag} {C : Addr} {F F' H H' : Hp} {as as' : Own} {cs cs' cs1 : List Cell} {E : AEnv} {k : AV → List Cell → Prop} {ta tb te tc : TE} {tas tar : TA}
def Kt (K : PySem.W.Frag) (C : Addr) (F : Hp) (as : Own) (H : Hp) (k : AV → List Cell → Prop) (Q : VK) : Prop :=
  ∀ z cs' w F' as' H', k z cs' → Stp as.length F as H F' as' H' → Wd K C F' as' cs' H' → AR K C F' as' z w → Q w H'
theorem Kt.now {Q : VK} (q : Kt K C F as H k Q) {z : AV} {w : V} (h : k z cs) (W : Wd K C F as cs H) (r : AR K C F as z w) : Q w H := q z cs w F as H h Stp.refl W r
theorem Kt.later {Q : VK} (q : Kt K C F as H k Q) (s : Stp as.length F as H F' as' H') : Kt K C F' as' H' k Q := fun z cs' w _ _ _ h t => q z cs' w _ _ _ h (s.tr t)
def O2 (K : PySem.W.Frag) (C : Addr) (r : R2) (x y : AV) (cs : List Cell) (k : AV → List Cell → Prop) : Prop :=
  ∀ (F : Hp) (as : Own) (H : Hp) (v u : V) (Q : VK), Wd K C F as cs H → AR K C F as x v → AR K C F as y u → Kt K C F as H k Q → r v u H Q
def O1 (K : PySem.W.Frag) (C : Addr) (r : V → Hp → VK → Prop) (x : AV) (cs : List Cell) (k : AV → List Cell → Prop) : Prop :=
  ∀ (F : Hp) (as : Own) (H : Hp) (v : V) (Q : VK), Wd K C F as cs H → AR K C F as x v → Kt K C F as H k Q → r v H Q
def On (K : PySem.W.Frag) (C : Addr) (r : List V → Hp → VK → Prop) (xs : List AV) (cs : List Cell) (k : AV → List Cell → Prop) : Prop :=
  ∀ (F : Hp) (as : Own) (H : Hp) (vs : List V) (Q : VK), Wd K C F as cs H → ARs K C F as xs vs → Kt K C F as H k Q → r vs H Q
def Om (K : PySem.W.Frag) (C : Addr) (r : V → List V → Hp → VK → Prop) (x : AV) (xs : List AV) (cs : List Cell) (k : AV → List Cell → Prop) : Prop :=
  ∀ (F : Hp) (as : Own) (H : Hp) (v : V) (vs : List V) (Q : VK), Wd K C F as cs H → AR K C F as x v → ARs K C F as xs vs → Kt K C F as H k Q → r v vs H Q
def IsB (x : AV) (f : Bool → Prop) : Prop := ∃ b, x = .d (.bool b) ∧ f b
theorem isB {b : Bool} {f : Bool → Prop} (h : f b) : IsB (.d (.bool b)) f := ⟨b, rfl, h⟩
def IsI (x : AV) (f : Int → Prop) : Prop := ∃ b, x = .d (.int b) ∧ f b
theorem isI {b : Int} {f : Int → Prop} (h : f b) : IsI (.d (.int b)) f := ⟨b, rfl, h⟩
def IsI1 (xs : List AV) (f : Int → Prop) : Prop := ∃ b, xs = [.d (.int b)] ∧ f b
theorem isI1 {b : Int} {f : Int → Prop} (h : f b) : IsI1 [.d (.int b)] f := ⟨b, rfl, h⟩
def IsI2 (xs : List AV) (f : Int → Int → Prop) : Prop := ∃ a b, xs = [.d (.int a), .d (.int b)] ∧ f a b
theorem isI2 {a b : Int} {f : Int → Int → Prop} (h : f a b) : IsI2 [.d (.int a), .d (.int b)] f := ⟨a, b, rfl, h⟩
def IsT (x : AV) (f : List PyData → Prop) : Prop := ∃ b, x = .d (.tuple b) ∧ f b
theorem isT {b : List PyData} {f : List PyData → Prop} (h : f b) : IsT (.d (.tuple b)) f := ⟨b, rfl, h⟩
def IsL (x : AV) (f : List PyData → Prop) : Prop := ∃ b, x = .d (.list b) ∧ f b
theorem isL {b : List PyData} {f : List PyData → Prop} (h : f b) : IsL (.d (.list b)) f := ⟨b, rfl, h⟩
def Is2 (xs : List AV) (f : AV → AV → Prop) : Prop := ∃ x y, xs = [x, y] ∧ f x y
theorem is2 {x y : AV} {f : AV → AV → Prop} (h : f x y) : Is2 [x, y] f := ⟨x, y, rfl, h⟩
def Is3 (xs : List AV) (f : AV → AV → AV → Prop) : Prop := ∃ x y z, xs = [x, y, z] ∧ f x y z
theorem is3 {x y z : AV} {f : AV → AV → AV → Prop} (h : f x y z) : Is3 [x, y, z] f := ⟨x, y, z, rfl, h⟩
def IsScr (x : AV) (f : List PyData → Prop) : Prop := ∃ b, x = .scr b ∧ f b
theorem isScr {b : List PyData} {f : List PyData → Prop} (h : f b) : IsScr (.scr b) f := ⟨b, rfl, h⟩
/-! ### expressions -/
theorem ev_var {i : Nat} {x : AV} (h : E[i]? = some (some x)) (q : k x cs) : Ev K C E cs (tVar i) k := fun F as H σ Q w e z => by
  obtain ⟨v, h1, h2⟩ := e.get i x h
  exact ⟨v, h1, z x cs v F as H q Stp.refl w h2⟩
theorem ev_c {v : V} {d : PyData} (h : ∀ F, Dp K F v d) (q : k (.d d) cs) : Ev K C E cs (tC v) k := fun F as H σ Q w e z => z _ cs v F as H q Stp.refl w (.d (h F))
theorem ev_int {i : Int} (q : k (.d (.int i)) cs) : Ev K C E cs (tC (.int i)) k := ev_c (fun _ => .int i) q
theorem ev_str {i : Str} (q : k (.d (.str i)) cs) : Ev K C E cs (tC (.str i)) k := ev_c (fun _ => .str i) q
theorem ev_bl {i : Bool} (q : k (.d (.bool i)) cs) : Ev K C E cs (tC (.bl i)) k := ev_c (fun _ => .bl i) q
theorem ev_non (q : k (.d .none) cs) : Ev K C E cs (tC .non) k := ev_c (fun _ => .non) q
theorem ev_ty {i : String} (q : k (.ty i) cs) : Ev K C E cs (tC (.ty i)) k := fun F as H σ Q w e z => z _ cs _ F as H q Stp.refl w .ty
theorem ev_op {r : R2} (h : Ev K C E cs ta fun x cs1 => Ev K C E cs1 tb fun y cs2 => O2 K C r x y cs2 k) : Ev K C E cs (tOp r ta tb) k := fun F as H σ Q w e z => by
  refine h F as H σ _ w e fun x cs1 v F1 as1 H1 h1 s1 w1 r1 => ?_
  refine h1 F1 as1 H1 σ _ w1 (e.mono s1.f s1.pre) fun y cs2 u F2 as2 H2 h2 s2 w2 r2 => ?_
  exact h2 F2 as2 H2 v u Q w2 (r1.mono s2.f s2.pre) r2 fun a b c _ _ _ g t => z a b c _ _ _ g ((s1.tr s2).tr t)
theorem ev_un {r : V → Hp → VK → Prop} (h : Ev K C E cs ta fun x cs1 => O1 K C r x cs1 k) : Ev K C E cs (tUn r ta) k := fun F as H σ Q w e z => by
  refine h F as H σ _ w e fun x cs1 v F1 as1 H1 h1 s1 w1 r1 => ?_
  exact h1 F1 as1 H1 v Q w1 r1 fun a b c _ _ _ g t => z a b c _ _ _ g (s1.tr t)
theorem evs_nil {k : List AV → List Cell → Prop} (q : k [] cs) : Evs K C E cs tNil k := fun F as H σ Q w e z => z [] cs [] F as H q Stp.refl w .nil
theorem evs_cons {k : List AV → List Cell → Prop} (h : Ev K C E cs ta fun x cs1 => Evs K C E cs1 tar fun xs cs2 => k (x :: xs) cs2) : Evs K C E cs (tCons ta tar) k := fun F as H σ Q w e z => by
  refine h F as H σ _ w e fun x cs1 v F1 as1 H1 h1 s1 w1 r1 => ?_
  refine h1 F1 as1 H1 σ _ w1 (e.mono s1.f s1.pre) fun y cs2 u F2 as2 H2 h2 s2 w2 r2 => ?_
  exact z _ cs2 _ F2 as2 H2 h2 (s1.tr s2) w2 (.cons (r1.mono s2.f s2.pre) r2)
def unD : List AV → Option (List PyData)
  | [] => some []
  | .d x :: xs => match unD xs with
    | some ds => some (x :: ds)
    | none => none
  | _ :: _ => none
def IsDs (xs : List AV) (f : List PyData → Prop) : Prop := ∃ ds, unD xs = some ds ∧ ds.length ≤ 100000 ∧ f ds
theorem isDs {xs : List AV} {ds : List PyData} {f : List PyData → Prop} (h : unD xs = some ds) (hl : Nat.ble ds.length 100000 = true) (q : f ds) : IsDs xs f := ⟨ds, h, Nat.le_of_ble_eq_true hl, q⟩
theorem unD_eq : ∀ {xs : List AV} {ds : List PyData}, unD xs = some ds → xs = ds.map AV.d
  | [], ds, h => by simp [unD] at h; subst h; rfl
  | .d x :: xs, ds, h => by
    simp only [unD] at h
    cases e : unD xs with
    | none => rw [e] at h; cases h
    | some es => rw [e] at h; cases h; rw [unD_eq e]; rfl
  | .tup _ :: _, _, h => by simp [unD] at h
  | .cel _ :: _, _, h => by simp [unD] at h
  | .sub _ _ :: _, _, h => by simp [unD] at h
  | .scr _ :: _, _, h => by simp [unD] at h
  | .ty _ :: _, _, h => by simp [unD] at h
  | .dct :: _, _, h => by simp [unD] at h
  | .raw _ :: _, _, h => by simp [unD] at h
  | .exn _ _ _ _ :: _, _, h => by simp [unD] at h
theorem Kt.frz {Q : VK} (q : Kt K C F as H k Q) (w : Wd K C F as cs H) {z : AV} {p : Addr} {o : HO} (hp : H p = none) (h : k z cs) (r : AR K C (upd F p o) as z (.ref p)) : Q (.ref p) (upd H p o) := by
  obtain ⟨w1, s1, _⟩ := w.newF hp o
  exact q z cs _ _ _ _ h s1 w1 r
theorem Kt.cell {Q : VK} (q : Kt K C F as H k Q) (w : Wd K C F as cs H) {p : Addr} {o : HO} {c : Cell} (hp : H p = none) (ho : NoTup o) (hc : CellOk K C F (as ++ [[p]]) (upd H p o) [p] c) (h : k (.cel cs.length) (cs ++ [c])) : Q (.ref p) (upd H p o) := by
  obtain ⟨w1, s1⟩ := w.newC hp ho hc
  refine q _ _ _ _ _ _ h s1 w1 (.cel (r := []) ?_)
  rw [← w.len, List.getElem?_append_right (Nat.le_refl _)]; simp
theorem ev_tupD (h : Evs K C E cs tas fun xs cs1 => IsDs xs fun ds => k (.d (.tuple ds)) cs1) : Ev K C E cs (tTup tas) k := fun F as H σ Q w e z => by
  refine h F as H σ _ w e fun xs cs1 vs F1 as1 H1 ⟨ds, h0, hl, h1⟩ s1 w1 r1 => ?_
  have r2 := ARs.toData ((unD_eq h0) ▸ r1)
  refine ⟨line_of (by rw [← r1.length, unD_eq h0, List.length_map]; exact hl), fun p hp => ?_⟩
  have hF : F1 p = none := w1.fro.free hp
  exact Kt.frz (Kt.later z s1) w1 hp h1 (.d (.tupOf upd_same ((Same.new hF).dpAll r2)))
theorem ev_tup (h : Evs K C E cs tas fun xs cs1 => xs.length ≤ 100000 ∧ k (.tup xs) cs1) : Ev K C E cs (tTup tas) k := fun F as H σ Q w e z => by
  refine h F as H σ _ w e fun xs cs1 vs F1 as1 H1 ⟨hl, h1⟩ s1 w1 r1 => ?_
  refine ⟨line_of (by rw [← r1.length]; exact hl), fun p hp => ?_⟩
  have hF : F1 p = none := w1.fro.free hp
  exact Kt.frz (Kt.later z s1) w1 hp h1 (.tup (SqT.of upd_same) (r1.mono (Same.new hF) Pre.refl))
theorem ev_lstD (h : Evs K C E cs tas fun xs cs1 => IsDs xs fun ds => k (.cel cs1.length) (cs1 ++ [.l ds])) : Ev K C E cs (tLst tas) k := fun F as H σ Q w e z => by
  refine h F as H σ _ w e fun xs cs1 vs F1 as1 H1 ⟨ds, h0, hl, h1⟩ s1 w1 r1 => ?_
  have r2 := ARs.toData ((unD_eq h0) ▸ r1)
  refine ⟨line_of (by rw [← r1.length, unD_eq h0, List.length_map]; exact hl), fun p hp => ?_⟩
  exact Kt.cell (Kt.later z s1) w1 hp trivial (.l upd_same r2) h1
theorem ev_lst (h : Evs K C E cs tas fun xs cs1 => xs.length ≤ 100000 ∧ k (.cel cs1.length) (cs1 ++ [.a xs])) : Ev K C E cs (tLst tas) k := fun F as H σ Q w e z => by
  refine h F as H σ _ w e fun xs cs1 vs F1 as1 H1 ⟨hl, h1⟩ s1 w1 r1 => ?_
  refine ⟨line_of (by rw [← r1.length]; exact hl), fun p hp => ?_⟩
  exact Kt.cell (Kt.later z s1) w1 hp trivial (.a upd_same (r1.mono (Same.refl _) Pre.snoc)) h1
/-- a list literal that is only read: frozen -/
theorem ev_lstF (h : Evs K C E cs tas fun xs cs1 => IsDs xs fun ds => k (.d (.list ds)) cs1) : Ev K C E cs (tLst tas) k := fun F as H σ Q w e z => by
  refine h F as H σ _ w e fun xs cs1 vs F1 as1 H1 ⟨ds, h0, hl, h1⟩ s1 w1 r1 => ?_
  have r2 := ARs.toData ((unD_eq h0) ▸ r1)
  refine ⟨line_of (by rw [← r1.length, unD_eq h0, List.length_map]; exact hl), fun p hp => ?_⟩
  have hF : F1 p = none := w1.fro.free hp
  exact Kt.frz (Kt.later z s1) w1 hp h1 (.d (.lstOf upd_same ((Same.new hF).dpAll r2)))
theorem ev_if {tt : TT} (h : Evt K C E cs tt fun b cs1 => if b = true then Ev K C E cs1 ta k else Ev K C E cs1 tb k) : Ev K C E cs (tIf tt ta tb) k := fun F as H σ Q w e z => by
  refine h F as H σ _ w e fun b cs1 F1 as1 H1 h1 s1 w1 => ?_
  cases b with
  | true => exact h1 F1 as1 H1 σ Q w1 (e.mono s1.f s1.pre) (Kt.later z s1)
  | false => exact h1 F1 as1 H1 σ Q w1 (e.mono s1.f s1.pre) (Kt.later z s1)
theorem ev_andV (h : Ev K C E cs ta fun x cs1 => IsB x fun b => if b = true then Ev K C E cs1 tb k else k (.d (.bool false)) cs1) : Ev K C E cs (tAndV ta tb) k := fun F as H σ Q w e z => by
  refine h F as H σ _ w e fun x cs1 v F1 as1 H1 ⟨b, hx, h1⟩ s1 w1 r1 => ?_
  subst hx
  cases r1 with | d r1 =>
  refine ⟨b, r1.bl_inv, ?_⟩
  cases b with
  | true => exact h1 F1 as1 H1 σ Q w1 (e.mono s1.f s1.pre) (Kt.later z s1)
  | false => exact z _ cs1 _ F1 as1 H1 h1 s1 w1 (.d (.bl false))
theorem ev_orV (h : Ev K C E cs ta fun x cs1 => IsB x fun b => if b = true then k (.d (.bool true)) cs1 else Ev K C E cs1 tb k) : Ev K C E cs (tOrV ta tb) k := fun F as H σ Q w e z => by
  refine h F as H σ _ w e fun x cs1 v F1 as1 H1 ⟨b, hx, h1⟩ s1 w1 r1 => ?_
  subst hx
  cases r1 with | d r1 =>
  refine ⟨b, r1.bl_inv, ?_⟩
  cases b with
  | true => exact z _ cs1 _ F1 as1 H1 h1 s1 w1 (.d (.bl true))
  | false => exact h1 F1 as1 H1 σ Q w1 (e.mono s1.f s1.pre) (Kt.later z s1)
theorem ev_notV (h : Ev K C E cs ta fun x cs1 => IsB x fun b => k (.d (.bool (!b))) cs1) : Ev K C E cs (tNotV ta) k := fun F as H σ Q w e z => by
  refine h F as H σ _ w e fun x cs1 v F1 as1 H1 ⟨b, hx, h1⟩ s1 w1 r1 => ?_
  subst hx
  cases r1 with | d r1 =>
  exact ⟨b, r1.bl_inv, z _ cs1 _ F1 as1 H1 h1 s1 w1 (.d (.bl (!b)))⟩
theorem ev_cb {r : List V → Hp → VK → Prop} (h : Evs K C E cs tas fun xs cs1 => On K C r xs cs1 k) : Ev K C E cs (tCB r tas) k := fun F as H σ Q w e z => by
  refine h F as H σ _ w e fun xs cs1 vs F1 as1 H1 h1 s1 w1 r1 => ?_
  exact h1 F1 as1 H1 vs Q w1 r1 (Kt.later z s1)
/-- the receiver's type -/
def TyA (K : PySem.W.Frag) (C : Addr) (T : String) (x : AV) (cs : List Cell) : Prop := ∀ F as H v, Wd K C F as cs H → AR K C F as x v → tyV K T v H
theorem ev_bm {T : String} {r : V → List V → Hp → VK → Prop} (h : Ev K C E cs ta fun x cs1 => TyA K C T x cs1 ∧ Evs K C E cs1 tas fun xs cs2 => Om K C r x xs cs2 k) : Ev K C E cs (tBM K T r ta tas) k := fun F as H σ Q w e z => by
  refine h F as H σ _ w e fun x cs1 v F1 as1 H1 ⟨ht, h1⟩ s1 w1 r1 => ⟨ht F1 as1 H1 v w1 r1, ?_⟩
  refine h1 F1 as1 H1 σ _ w1 (e.mono s1.f s1.pre) fun xs cs2 vs F2 as2 H2 h2 s2 w2 r2 => ?_
  exact h2 F2 as2 H2 v vs Q w2 (r1.mono s2.f s2.pre) r2 (Kt.later z (s1.tr s2))
theorem ev_bm0 {T : String} {r : V → List V → Hp → VK → Prop} (h : Ev K C E cs ta fun x cs1 => TyA K C T x cs1 ∧ Om K C r x [] cs1 k) : Ev K C E cs (tBM0 K T r ta) k := fun F as H σ Q w e z => by
  refine h F as H σ _ w e fun x cs1 v F1 as1 H1 ⟨ht, h1⟩ s1 w1 r1 => ⟨ht F1 as1 H1 v w1 r1, ?_⟩
  exact h1 F1 as1 H1 v [] Q w1 r1 .nil (Kt.later z s1)
/-! ### tests -/
section
variable {kb : Bool → List Cell → Prop} {t u : TT}
theorem et_test (h : Ev K C E cs te fun x cs1 => IsB x fun b => kb b cs1) : Evt K C E cs (tTest te) kb := fun F as H σ Q w e z => by
  refine h F as H σ _ w e fun x cs1 v F1 as1 H1 ⟨b, hx, h1⟩ s1 w1 r1 => ?_
  subst hx
  cases r1 with | d r1 => exact ⟨b, r1.bl_inv, z b cs1 F1 as1 H1 h1 s1 w1⟩
theorem et_B (h : Ev K C E cs te fun x cs1 => IsB x fun b => kb b cs1) : Evt K C E cs (tB te) kb := et_test h
theorem et_and (h : Evt K C E cs t fun b cs1 => if b = true then Evt K C E cs1 u kb else kb false cs1) : Evt K C E cs (tAnd t u) kb := fun F as H σ Q w e z => by
  refine h F as H σ _ w e fun b cs1 F1 as1 H1 h1 s1 w1 => ?_
  cases b with
  | true => exact h1 F1 as1 H1 σ Q w1 (e.mono s1.f s1.pre) fun b cs2 _ _ _ g t => z b cs2 _ _ _ g (s1.tr t)
  | false => exact z false cs1 F1 as1 H1 h1 s1 w1
theorem et_or (h : Evt K C E cs t fun b cs1 => if b = true then kb true cs1 else Evt K C E cs1 u kb) : Evt K C E cs (tOr t u) kb := fun F as H σ Q w e z => by
  refine h F as H σ _ w e fun b cs1 F1 as1 H1 h1 s1 w1 => ?_
  cases b with
  | false => exact h1 F1 as1 H1 σ Q w1 (e.mono s1.f s1.pre) fun b cs2 _ _ _ g t => z b cs2 _ _ _ g (s1.tr t)
  | true => exact z true cs1 F1 as1 H1 h1 s1 w1
theorem et_not (h : Evt K C E cs t fun b cs1 => kb (!b) cs1) : Evt K C E cs (tNot t) kb := fun F as H σ Q w e z => by
  refine h F as H σ _ w e fun b cs1 F1 as1 H1 h1 s1 w1 => ?_
  exact z (!b) cs1 F1 as1 H1 h1 s1 w1
theorem et_yes (h : kb true cs) : Evt K C E cs tYes kb := fun F as H σ Q w e z => z true cs F as H h Stp.refl w
end
/-! ### statements -/
section
variable {n : Nat} {D : AEnds} {t u : TS}
theorem ex_seq (h : Ex K C n E cs t { D with nx := fun E' cs' => Ex K C n E' cs' u D }) : Ex K C n E cs (tSeq t u) D := fun F as H σ Dc hn w e d => by
  refine h F as H σ _ hn w e ⟨fun E' cs' F' as' H' σ' g s w' e' => ?_, d.rt, d.bk, d.ct, d.ex⟩
  exact g F' as' H' σ' Dc (by rw [← w'.len]; exact s.len (by rw [w.len]; exact hn)) w' e' (d.later s)
theorem ex_asg {g : TG} (h : Ev K C E cs te fun x cs1 => ∀ F as H σ v (Q : St → Hp → Prop), n ≤ cs1.length → Wd K C F as cs1 H → EnvR K C F as E σ → AR K C F as x v → (∀ E' cs' F' as' H' σ', D.nx E' cs' → Stp n F as H F' as' H' → Wd K C F' as' cs' H' → EnvR K C F' as' E' σ' → Q σ' H') → g v σ H Q) : Ex K C n E cs (tAsg te g) D := fun F as H σ Dc hn w e d => by
  refine h F as H σ _ w e fun x cs1 v F1 as1 H1 h1 s1 w1 r1 => ?_
  have hn' : n ≤ as.length := by rw [w.len]; exact hn
  have s1' := s1.weak hn'
  refine h1 F1 as1 H1 σ v _ (by rw [← w1.len]; exact s1'.len hn') w1 (e.mono s1.f s1.pre) r1 fun E' cs' F' as' H' σ' g t w' e' => ?_
  exact d.nx E' cs' F' as' H' σ' g (s1'.trans t) w' e'
theorem ex_name {i : Nat} (h : Ev K C E cs te fun x cs1 => D.nx (E.set i (some x)) cs1) : Ex K C n E cs (tAsg te (gName i)) D :=
  ex_asg fun F as H σ Q w e z => h F as H σ Q w e fun x cs1 v F1 as1 H1 h1 s1 w1 r1 => z x cs1 v F1 as1 H1 (fun F as H σ v Q hn w e r q => q _ cs1 F as H _ h1 Stp.refl w (e.set r)) s1 w1 r1
theorem ex_ret (h : Ev K C E cs te D.rt) : Ex K C n E cs (tRet te) D := fun F as H σ Dc hn w e d =>
  h F as H σ _ w e fun x cs1 v F1 as1 H1 h1 s1 w1 r1 => d.rt x cs1 F1 as1 H1 v h1 (s1.weak (by rw [w.len]; exact hn)) w1 r1
theorem ex_retN (h : D.rt (.d .none) cs) : Ex K C n E cs tRetN D := fun F as H σ Dc hn w e d => d.rt _ cs F as H _ h Stp.refl w (.d .non)
theorem ex_drop (h : Ev K C E cs te fun _ cs1 => D.nx E cs1) : Ex K C n E cs (tDrop te) D := fun F as H σ Dc hn w e d =>
  h F as H σ _ w e fun x cs1 v F1 as1 H1 h1 s1 w1 r1 => d.nx E cs1 F1 as1 H1 σ h1 (s1.weak (by rw [w.len]; exact hn)) w1 (e.mono s1.f s1.pre)
theorem ex_next (h : D.nx E cs) : Ex K C n E cs tNext D := fun F as H σ Dc hn w e d => d.nx E cs F as H σ h Stp.refl w e
theorem ex_if {c : TT} (h : Evt K C E cs c fun b cs1 => if b = true then Ex K C n E cs1 t D else Ex K C n E cs1 u D) : Ex K C n E cs (tIfS c t u) D := fun F as H σ Dc hn w e d => by
  refine h F as H σ _ w e fun b cs1 F1 as1 H1 h1 s1 w1 => ?_
  have hn' : n ≤ as.length := by rw [w.len]; exact hn
  have s1' := s1.weak hn'
  have hc : n ≤ cs1.length := by rw [← w1.len]; exact s1'.len hn'
  cases b with
  | true => exact h1 F1 as1 H1 σ Dc hc w1 (e.mono s1.f s1.pre) (d.later s1')
  | false => exact h1 F1 as1 H1 σ Dc hc w1 (e.mono s1.f s1.pre) (d.later s1')
theorem ex_par {i j : Nat} (h : Evs K C E cs tas fun xs cs1 => Is2 xs fun x y => D.nx ((E.set i (some x)).set j (some y)) cs1) : Ex K C n E cs (tPar i j tas) D := fun F as H σ Dc hn w e d => by
  refine h F as H σ _ w e fun xs cs1 vs F1 as1 H1 ⟨x, y, hx, h1⟩ s1 w1 r1 => ?_
  subst hx
  cases r1 with | cons r1 r2 =>
  cases r2 with | cons r2 r3 =>
  cases r3
  exact ⟨_, _, rfl, d.nx _ cs1 F1 as1 H1 _ h1 (s1.weak (by rw [w.len]; exact hn)) w1 (((e.mono s1.f s1.pre).set r1).set r2)⟩
theorem ex_par3 {i j l : Nat} (h : Evs K C E cs tas fun xs cs1 => Is3 xs fun x y z => D.nx (((E.set i (some x)).set j (some y)).set l (some z)) cs1) : Ex K C n E cs (tPar3 i j l tas) D := fun F as H σ Dc hn w e d => by
  refine h F as H σ _ w e fun xs cs1 vs F1 as1 H1 ⟨x, y, z, hx, h1⟩ s1 w1 r1 => ?_
  subst hx
  cases r1 with | cons r1 r2 =>
  cases r2 with | cons r2 r3 =>
  cases r3 with | cons r3 r4 =>
  cases r4
  exact ⟨_, _, _, rfl, d.nx _ cs1 F1 as1 H1 _ h1 (s1.weak (by rw [w.len]; exact hn)) w1 ((((e.mono s1.f s1.pre).set r1).set r2).set r3)⟩
/-- a cut: one continuation for several ways -/
theorem ex_cut (Mid : AEnv → List Cell → Prop) (h : Ex K C n E cs t { D with nx := Mid }) (q : ∀ E' cs', Mid E' cs' → Ex K C n E' cs' u D) : Ex K C n E cs (tSeq t u) D :=
  ex_seq fun F as H σ Dc hn w e d => h F as H σ _ hn w e ⟨fun E' cs' F' as' H' σ' g => d.nx E' cs' F' as' H' σ' (q E' cs' g), d.rt, d.bk, d.ct, d.ex⟩
/-! ### dropping what is no longer needed -/
def maskE : List Bool → AEnv → AEnv
  | true :: ms, e :: es => e :: maskE ms es
  | false :: ms, _ :: es => none :: maskE ms es
  | _, _ => []
def ltE (n : Nat) : AEnv → Bool
  | [] => true
  | some x :: es => AV.lt n x && ltE n es
  | none :: es => ltE n es
def ltC (n : Nat) : List Cell → Bool
  | [] => true
  | c :: cs => Cell.lt n c && ltC n cs
theorem ltE_get : ∀ {E : AEnv} {n i : Nat} {x : AV}, ltE n E = true → E[i]? = some (some x) → AV.lt n x = true
  | [], _, _, _, _, h => by simp at h
  | some y :: es, n, 0, x, h, g => by
    simp at g; subst g
    simp only [ltE, Bool.and_eq_true] at h; exact h.1
  | some y :: es, n, i + 1, x, h, g => by
    simp only [ltE, Bool.and_eq_true] at h; exact ltE_get h.2 (by simpa using g)
  | none :: es, n, 0, x, h, g => by simp at g
  | none :: es, n, i + 1, x, h, g => by exact ltE_get (by simpa [ltE] using h) (by simpa using g)
theorem ltC_get {cs : List Cell} {n : Nat} {c : Cell} (h : ltC n cs = true) (m : c ∈ cs) : Cell.lt n c = true := by
  induction cs with
  | nil => exact absurd m List.not_mem_nil
  | cons d ds ih =>
    rw [ltC, Bool.and_eq_true] at h
    rcases List.mem_cons.mp m with e | m
    · rw [e]; exact h.1
    · exact ih h.2 m
theorem maskE_get : ∀ {ms : List Bool} {E : AEnv} {i : Nat} {x : AV}, (maskE ms E)[i]? = some (some x) → E[i]? = some (some x)
  | true :: ms, e :: es, 0, x, h => by simpa [maskE] using h
  | true :: ms, e :: es, i + 1, x, h => by simpa using maskE_get (ms := ms) (by simpa [maskE] using h)
  | false :: ms, e :: es, 0, x, h => by simp [maskE] at h
  | false :: ms, e :: es, i + 1, x, h => by simpa using maskE_get (ms := ms) (by simpa [maskE] using h)
  | [], _, _, _, h => by simp [maskE] at h
  | true :: _, [], _, _, h => by simp [maskE] at h
  | false :: _, [], _, _, h => by simp [maskE] at h
theorem maskE_len : ∀ {ms : List Bool} {E : AEnv}, ms.length = E.length → (maskE ms E).length = E.length
  | [], [], _ => rfl
  | true :: ms, e :: es, h => by simp [maskE, maskE_len (ms := ms) (E := es) (by simpa using h)]
  | false :: ms, e :: es, h => by simp [maskE, maskE_len (ms := ms) (E := es) (by simpa using h)]
theorem EnvR.mask {σ : St} {ms : List Bool} {n : Nat} (e : EnvR K C F as E σ) (hl : ms.length = E.length) (h : ltE n (maskE ms E) = true) : EnvR K C F (as.take n) (maskE ms E) σ :=
  ⟨by rw [maskE_len hl]; exact e.len, fun i x hx => by
    obtain ⟨v, h1, h2⟩ := e.get i x (maskE_get hx)
    exact ⟨v, h1, h2.cut (ltE_get h hx)⟩⟩
/-- P holds once some of the environment and the cells from the j-th on are dropped -/
def Cl (n : Nat) (P : AEnv → List Cell → Prop) (E : AEnv) (cs : List Cell) : Prop :=
  ∃ (ms : List Bool) (j : Nat), ms.length = E.length ∧ n ≤ j ∧ ltE j (maskE ms E) = true ∧ ltC j (cs.take j) = true ∧ P (maskE ms E) (cs.take j)
theorem Cl.run {P : AEnv → List Cell → Prop} (c : Cl n P E cs) {σ : St} {R : Prop} (w : Wd K C F' as' cs H') (e : EnvR K C F' as' E σ) (s : Stp n F as H F' as' H')
    (q : ∀ E1 cs1 as1, P E1 cs1 → Stp n F as H F' as1 H' → Wd K C F' as1 cs1 H' → EnvR K C F' as1 E1 σ → R) : R := by
  obtain ⟨ms, j, h1, h2, h3, h4, h5⟩ := c
  exact q _ _ _ h5 (s.cut h2) (w.cut fun c hc => ltC_get h4 hc) (e.mask h1 h3)
end
end
end Y

/-! # Pure states: other numbers for the cells -/
namespace Y
open PySem L2
/-! ### other numbers for the cells -/
mutual
def AV.ren (ρ : Nat → Nat) : AV → AV
  | .d x => .d x
  | .tup xs => .tup (AV.renAll ρ xs)
  | .cel i => .cel (ρ i)
  | .sub i j => .sub (ρ i) j
  | .scr ds => .scr ds
  | .ty s => .ty s
  | .dct => .dct
  | .raw v => .raw v
  | .exn a b f x => .exn a b f (AV.ren ρ x)
def AV.renAll (ρ : Nat → Nat) : List AV → List AV
  | [] => []
  | x :: xs => AV.ren ρ x :: AV.renAll ρ xs
end
def Cell.ren (ρ : Nat → Nat) : Cell → Cell
  | .a xs => .a (AV.renAll ρ xs)
  | .k lk kvs => .k lk (kvs.map fun p => (p.1, AV.ren ρ p.2))
  | .l ds => .l ds
  | .g ix rs => .g ix rs
  | .m lk ks rs => .m lk ks rs
  | .x => .x
  | .o φ => .o φ
section
variable {K : PySem.W.Frag} {C : Addr} {F F' H H' : Hp} {as as' : Own} {cs cs' cs1 : List Cell} {E : AEnv} {tas : TA}
mutual
theorem AR.ren {ρ : Nat → Nat} (h : ∀ (j : Nat) own, as[j]? = some own → as'[ρ j]? = some own) : ∀ {x : AV} {v : V}, AR K C F as x v → AR K C F as' (x.ren ρ) v
  | .d _, _, r => by cases r with | d r => exact .d r
  | .tup xs, _, r => by cases r with | tup r1 r2 => exact .tup r1 (ARs.ren h r2)
  | .cel i, _, r => by cases r with | cel r => exact .cel (h _ _ r)
  | .sub i j, _, r => by cases r with | sub r1 r2 => exact .sub (h _ _ r1) r2
  | .scr _, _, r => by cases r with | scr r => exact .scr r
  | .ty _, _, r => by cases r; exact .ty
  | .dct, _, r => by cases r with | dct r => exact .dct r
  | .raw _, _, r => by cases r; exact .raw
  | .exn _ _ _ _, _, r => by cases r with | exn r1 r2 => exact .exn r1 (AR.ren h r2)
theorem ARs.ren {ρ : Nat → Nat} (h : ∀ (j : Nat) own, as[j]? = some own → as'[ρ j]? = some own) : ∀ {xs : List AV} {vs : List V}, ARs K C F as xs vs → ARs K C F as' (AV.renAll ρ xs) vs
  | [], _, r => by cases r; exact .nil
  | x :: xs, _, r => by cases r with | cons r1 r2 => exact .cons (AR.ren h r1) (ARs.ren h r2)
end
mutual
theorem AR.unren {ρ : Nat → Nat} {n : Nat} (h : ∀ (j : Nat), j < n → as[ρ j]? = as'[j]?) : ∀ {x : AV} {v : V}, AV.lt n x = true → AR K C F as (x.ren ρ) v → AR K C F as' x v
  | .d _, _, _, r => by cases r with | d r => exact .d r
  | .tup xs, _, l, r => by cases r with | tup r1 r2 => exact .tup r1 (ARs.unren h (by simpa only [AV.lt] using l) r2)
  | .cel i, _, l, r => by cases r with | cel r => exact .cel (by rw [← h i (by simpa [AV.lt] using l)]; exact r)
  | .sub i j, _, l, r => by cases r with | sub r1 r2 => exact .sub (by rw [← h i (by simpa [AV.lt] using l)]; exact r1) r2
  | .scr _, _, _, r => by cases r with | scr r => exact .scr r
  | .ty _, _, _, r => by cases r; exact .ty
  | .dct, _, _, r => by cases r with | dct r => exact .dct r
  | .raw _, _, _, r => by cases r; exact .raw
  | .exn _ _ _ _, _, l, r => by cases r with | exn r1 r2 => exact .exn r1 (AR.unren h (by simpa only [AV.lt] using l) r2)
theorem ARs.unren {ρ : Nat → Nat} {n : Nat} (h : ∀ (j : Nat), j < n → as[ρ j]? = as'[j]?) : ∀ {xs : List AV} {vs : List V}, AV.ltAll n xs = true → ARs K C F as (AV.renAll ρ xs) vs → ARs K C F as' xs vs
  | [], _, _, r => by cases r; exact .nil
  | x :: xs, _, l, r => by
    simp only [AV.ltAll, Bool.and_eq_true] at l
    cases r with | cons r1 r2 => exact .cons (AR.unren h l.1 r1) (ARs.unren h l.2 r2)
end
theorem renAll_map {ρ : Nat → Nat} : ∀ xs : List AV, AV.renAll ρ xs = xs.map (AV.ren ρ)
  | [] => rfl
  | x :: xs => by rw [AV.renAll, renAll_map xs]; rfl
theorem CellOk.ren {ρ : Nat → Nat} {own : List Addr} {c : Cell} (h : ∀ (j : Nat) own, as[j]? = some own → as'[ρ j]? = some own) (k : CellOk K C F as H own c) : CellOk K C F as' H own (c.ren ρ) := by
  cases k with
  | l h1 h2 => exact .l h1 h2
  | a h1 h2 => exact .a h1 (h2.ren h)
  | k h0 h1 h2 h3 =>
    refine .k h0 h1 (by rw [h2, List.map_map]; rfl) ?_
    have := h3.ren h
    rw [renAll_map, List.map_map] at this
    rw [List.map_map]; exact this
  | g h1 h2 h3 => exact .g h1 h2 h3
  | m h1 h2 h3 => exact .m h1 h2 h3
  | x => exact .x
  | o h => exact .o h
theorem CellOk.unren {ρ : Nat → Nat} {n : Nat} {own : List Addr} {c : Cell} (h : ∀ (j : Nat), j < n → as[ρ j]? = as'[j]?) (l : Cell.lt n c = true) (k : CellOk K C F as H own (c.ren ρ)) : CellOk K C F as' H own c := by
  cases c with
  | l ds => cases k with | l h1 h2 => exact .l h1 h2
  | a xs => cases k with | a h1 h2 => exact .a h1 (h2.unren h l)
  | k lk kvs =>
    cases k with | k h0 h1 h2 h3 =>
    refine .k h0 h1 (by rw [h2, List.map_map]; rfl) ?_
    refine ARs.unren h l ?_
    rw [renAll_map, List.map_map]
    rw [List.map_map] at h3; exact h3
  | g ix rs => cases k with | g h1 h2 h3 => exact .g h1 h2 h3
  | m lk ks rs => cases k with | m h1 h2 h3 => exact .m h1 h2 h3
  | x => exact .x
  | o φ => cases k with | o h => exact .o h
def EnvSel (ρ : Nat → Nat) (n : Nat) : AEnv → AEnv → Prop
  | [], [] => True
  | none :: es, _ :: fs => EnvSel ρ n es fs
  | some x :: es, f :: fs => f = some (x.ren ρ) ∧ AV.lt n x = true ∧ EnvSel ρ n es fs
  | _, _ => False
theorem EnvSel.len {ρ : Nat → Nat} {n : Nat} : ∀ {E1 E : AEnv}, EnvSel ρ n E1 E → E1.length = E.length
  | [], [], _ => rfl
  | none :: es, _ :: fs, h => by simp [EnvSel.len (E1 := es) (E := fs) h]
  | some x :: es, f :: fs, h => by simp [EnvSel.len (E1 := es) (E := fs) h.2.2]
theorem EnvSel.get {ρ : Nat → Nat} {n : Nat} : ∀ {E1 E : AEnv} {i : Nat} {x : AV}, EnvSel ρ n E1 E → E1[i]? = some (some x) → E[i]? = some (some (x.ren ρ)) ∧ AV.lt n x = true
  | [], _, _, _, _, e => by simp at e
  | none :: es, _ :: fs, 0, _, h, e => by simp at e
  | none :: es, _ :: fs, i + 1, x, h, e => by simpa using EnvSel.get (E1 := es) (E := fs) (i := i) h (by simpa using e)
  | some y :: es, f :: fs, 0, x, h, e => by
    simp at e; subst e
    exact ⟨by rw [h.1]; rfl, h.2.1⟩
  | some y :: es, f :: fs, i + 1, x, h, e => by simpa using EnvSel.get (E1 := es) (E := fs) (i := i) h.2.2 (by simpa using e)
  | some _ :: _, [], _, _, h, _ => h.elim
  | none :: _, [], _, _, h, _ => h.elim
/-- the cells js are kept, the first n in their places -/
structure Sel (n : Nat) (js : List Nat) (E1 : AEnv) (cs1 : List Cell) (E : AEnv) (cs : List Cell) : Prop where
  nd : js.Nodup
  base : js.take n = List.range n
  env : EnvSel (fun j => js.getD j 0) js.length E1 E
  cells : js.map (fun i => cs[i]?) = cs1.map (fun c => some (c.ren fun j => js.getD j 0))
  cl : ltC js.length cs1 = true
theorem Sel.run {n : Nat} {js : List Nat} {E1 : AEnv} {F0 : Hp} {as0 : Own} {H0 : Hp} {σ : St} (S : Sel n js E1 cs1 E cs) (w : Wd K C F as cs H) (e : EnvR K C F as E σ) (s : Stp n F0 as0 H0 F as H) :
    ∃ as1, Stp n F0 as0 H0 F as1 H ∧ Wd K C F as1 cs1 H ∧ EnvR K C F as1 E1 σ := by
  have hlen : cs1.length = js.length := by have := congrArg List.length S.cells; simpa using this.symm
  have hlt : ∀ i ∈ js, i < as.length := fun i hi => by
    obtain ⟨j, hj⟩ := List.mem_iff_getElem?.mp hi
    have := congrArg (fun l => l[j]?) S.cells
    simp only [List.getElem?_map, hj, Option.map_some] at this
    cases e1 : cs1[j]? with
    | none =>
      have := (List.getElem?_eq_none_iff.mp e1); have := (List.getElem?_eq_some_iff.mp hj).1; omega
    | some c =>
      rw [e1] at this
      rw [w.len]
      exact (List.getElem?_eq_some_iff.mp (Option.some.inj this)).1
  obtain ⟨sel, hs⟩ : ∃ sel : Own, sel = js.map fun i => as.getD i [] := ⟨_, rfl⟩
  have hsl : sel.length = js.length := by rw [hs, List.length_map]
  have getD_eq : ∀ i, i < as.length → as[i]? = some (as.getD i []) := fun i hi => by rw [List.getD_eq_getElem?_getD, List.getElem?_eq_getElem hi]; rfl
  have hsel : ∀ (j : Nat) own, sel[j]? = some own → ∃ i, js[j]? = some i ∧ as[i]? = some own := fun j own h => by
    rw [hs, List.getElem?_map] at h
    obtain ⟨i, h1, h2⟩ := Option.map_eq_some_iff.mp h
    exact ⟨i, h1, by rw [getD_eq i (hlt i (List.mem_of_getElem? h1)), h2]⟩
  have rsel : ∀ (j : Nat), j < js.length → as[js.getD j 0]? = sel[j]? := fun j hj => by
    have e1 : js[j]? = some js[j] := List.getElem?_eq_getElem hj
    have e2 : js.getD j 0 = js[j] := by rw [List.getD_eq_getElem?_getD, e1]; rfl
    rw [e2, getD_eq _ (hlt _ (List.getElem_mem hj)), hs, List.getElem?_map, e1]; rfl
  have inj : ∀ {j j' i : Nat}, js[j]? = some i → js[j']? = some i → j = j' := fun {j j' i} h1 h2 => by
    obtain ⟨b1, e1⟩ := List.getElem?_eq_some_iff.mp h1
    obtain ⟨b2, e2⟩ := List.getElem?_eq_some_iff.mp h2
    exact (List.getElem_inj (h₀ := b1) (h₁ := b2) S.nd).mp (e1.trans e2.symm)
  refine ⟨sel, ⟨s.f, fun i hi own ho => ?_, s.fr, s.dm, s.nf, fun b ⟨j, own, hj, hb⟩ => ?_⟩, ⟨w.fro, fun j own hj => ?_, fun j j' own own' hj hj' hne => ?_, fun j own hj => ?_, by rw [hsl, hlen], fun j own c hj hc => ?_, fun j own hj => ?_, w.tp⟩, ⟨S.env.len.trans e.len, fun i x hx => ?_⟩⟩
  · obtain ⟨r, hr⟩ := s.a i hi own ho
    have e1 : js[i]? = some i := by
      have := congrArg (fun l => l[i]?) S.base
      simp only [List.getElem?_take, if_pos hi] at this
      rw [this, List.getElem?_range hi]
    exact ⟨r, by rw [hs, List.getElem?_map, e1]; show some (as.getD i []) = _; rw [← getD_eq i (List.getElem?_eq_some_iff.mp hr).1]; exact hr⟩
  · obtain ⟨i, _, h2⟩ := hsel j own hj
    exact s.na b ⟨i, own, h2, hb⟩
  · obtain ⟨i, _, h2⟩ := hsel j own hj
    exact w.dis i own h2
  · obtain ⟨i, h1, h2⟩ := hsel j own hj
    obtain ⟨i', h1', h2'⟩ := hsel j' own' hj'
    exact w.sep i i' own own' h2 h2' fun z => hne (inj h1 (z ▸ h1'))
  · obtain ⟨i, _, h2⟩ := hsel j own hj
    exact w.nd i own h2
  · obtain ⟨i, h1, h2⟩ := hsel j own hj
    have hc2 : cs[i]? = some (c.ren (fun j => js.getD j 0)) := by
      have := congrArg (fun l => l[j]?) S.cells
      simp only [List.getElem?_map, h1, hc, Option.map_some] at this
      exact Option.some.inj this
    exact CellOk.unren rsel (ltC_get S.cl (List.mem_of_getElem? hc)) (w.ok i own _ h2 hc2)
  · obtain ⟨i, _, h2⟩ := hsel j own hj
    exact w.mu i own h2
  · obtain ⟨g1, g2⟩ := S.env.get hx
    obtain ⟨v, g3, g4⟩ := e.get i _ g1
    exact ⟨v, g3, AR.unren rsel g2 g4⟩
/-- P holds once some things are dropped -/
def Cm (n : Nat) (P : AEnv → List Cell → Prop) (E : AEnv) (cs : List Cell) : Prop := Cl n P E cs ∨ (∃ js E1 cs1, Sel n js E1 cs1 E cs ∧ P E1 cs1) ∨ P E cs
theorem Cm.run {n : Nat} {P : AEnv → List Cell → Prop} {F0 : Hp} {as0 : Own} {H0 : Hp} (c : Cm n P E cs) {σ : St} {R : Prop} (w : Wd K C F as cs H) (e : EnvR K C F as E σ) (s : Stp n F0 as0 H0 F as H)
    (q : ∀ E1 cs1 as1, P E1 cs1 → Stp n F0 as0 H0 F as1 H → Wd K C F as1 cs1 H → EnvR K C F as1 E1 σ → R) : R := by
  rcases c with c | ⟨js, E1, cs1, S, hp⟩ | hp
  · exact c.run w e s q
  · obtain ⟨as1, s1, w1, e1⟩ := S.run w e s
    exact q E1 cs1 as1 hp s1 w1 e1
  · exact q E cs as hp s w e
theorem Cm.mask {n : Nat} {P : AEnv → List Cell → Prop} (ms : List Bool) (j : Nat) (h1 : ms.length = E.length) (h2 : n ≤ j) (h3 : ltE j (maskE ms E) = true) (h4 : ltC j (cs.take j) = true) (h : P (maskE ms E) (cs.take j)) : Cm n P E cs := .inl ⟨ms, j, h1, h2, h3, h4, h⟩
theorem Cm.sel {n : Nat} {P : AEnv → List Cell → Prop} (js : List Nat) {E1 : AEnv} (S : Sel n js E1 cs1 E cs) (h : P E1 cs1) : Cm n P E cs := .inr (.inl ⟨js, E1, cs1, S, h⟩)
theorem Cm.here {n : Nat} {P : AEnv → List Cell → Prop} (h : P E cs) : Cm n P E cs := .inr (.inr h)
end
end Y

/-! # Pure states: targets, loops, comprehensions -/
namespace Y
open PySem L2
section
variable {K : PySem.W.Frag} {C : Addr} {F F' H H' : Hp} {as as' : Own} {cs cs' cs1 : List Cell} {E : AEnv} {ta tb te tc : TE} {tas tar : TA} {n m : Nat} {D : AEnds}
/-! ### targets -/
def Eg (K : PySem.W.Frag) (C : Addr) (n : Nat) (E : AEnv) (y : AV) (cs : List Cell) (g : TG) (kg : AEnv → List Cell → Prop) : Prop :=
  ∀ F as H σ v (Q : St → Hp → Prop), n ≤ cs.length → Wd K C F as cs H → EnvR K C F as E σ → AR K C F as y v → (∀ E' cs' F' as' H' σ', kg E' cs' → Stp n F as H F' as' H' → Wd K C F' as' cs' H' → EnvR K C F' as' E' σ' → Q σ' H') → g v σ H Q
def Egs (K : PySem.W.Frag) (C : Addr) (n : Nat) (E : AEnv) (ys : List AV) (cs : List Cell) (g : TGs) (kg : AEnv → List Cell → Prop) : Prop :=
  ∀ F as H σ vs (Q : St → Hp → Prop), n ≤ cs.length → Wd K C F as cs H → EnvR K C F as E σ → ARs K C F as ys vs → (∀ E' cs' F' as' H' σ', kg E' cs' → Stp n F as H F' as' H' → Wd K C F' as' cs' H' → EnvR K C F' as' E' σ' → Q σ' H') → g vs σ H Q
variable {kg : AEnv → List Cell → Prop}
theorem ex_to {g : TG} (h : Ev K C E cs te fun x cs1 => Eg K C n E x cs1 g D.nx) : Ex K C n E cs (tAsg te g) D := ex_asg h
theorem eg_name {i : Nat} {y : AV} (h : kg (E.set i (some y)) cs) : Eg K C n E y cs (gName i) kg := fun F as H σ v Q _ w e r q => q _ cs F as H _ h Stp.refl w (e.set r)
theorem egs_nil (h : kg E cs) : Egs K C n E [] cs gNil kg := fun F as H σ vs Q _ w e r q => by cases r; exact ⟨rfl, q E cs F as H σ h Stp.refl w e⟩
theorem egs_cons {i : Nat} {gr : TGs} {y : AV} {ys : List AV} (h : Egs K C n (E.set i (some y)) ys cs gr kg) : Egs K C n E (y :: ys) cs (gCons (gName i) gr) kg := fun F as H σ vs Q hn w e r q => by
  cases r with | cons r1 r2 => exact ⟨_, _, rfl, h F as H _ _ Q hn w (e.set r1) r2 q⟩
theorem eg_tupD {l : Nat} {gs : TGs} {ds : List PyData} (hl : ds.length = l) (h : Egs K C n E (ds.map AV.d) cs gs kg) : Eg K C n E (.d (.tuple ds)) cs (gTup K l gs) kg := fun F as H σ v Q hn w e r q => by
  cases r with | d r =>
  obtain ⟨a, xs, rfl, h1, h2⟩ := r.tup_inv
  exact ⟨a, xs, rfl, w.fro.sqT h1, by rw [h2.length]; exact hl, h F as H σ xs Q hn w e (ARs.data h2) q⟩
theorem eg_tup {l : Nat} {gs : TGs} {ys : List AV} (hl : ys.length = l) (h : Egs K C n E ys cs gs kg) : Eg K C n E (.tup ys) cs (gTup K l gs) kg := fun F as H σ v Q hn w e r q => by
  cases r with | tup h1 h2 => exact ⟨_, _, rfl, w.fro.sqT h1, by rw [← h2.length]; exact hl, h F as H σ _ Q hn w e h2 q⟩
/-! ### what a loop goes over -/
structure Src (K : PySem.W.Frag) (C : Addr) (J : It) (m : Nat) (F0 : Hp) (as0 : Own) (H0 : Hp) (ok : List Cell → Prop) (items : List AV) : Prop where
  turn : ∀ (t : Nat) y F as cs H, items[t]? = some y → ok cs → Stp m F0 as0 H0 F as H → Wd K C F as cs H → J.go t H ∧ ∀ x H', J.yld t H x H' → ∃ F', Stp as.length F as H F' as H' ∧ Wd K C F' as cs H' ∧ AR K C F' as y x
  stop : ∀ F as cs H, ok cs → Stp m F0 as0 H0 F as H → Wd K C F as cs H → J.stop items.length H
def Evi (K : PySem.W.Frag) (C : Addr) (m : Nat) (E : AEnv) (cs : List Cell) (wi : TI) (ki : List AV → (List Cell → Prop) → List Cell → Prop) : Prop :=
  ∀ (F : Hp) (as : Own) (H : Hp) (σ : St) (R : It → Hp → Prop), Wd K C F as cs H → EnvR K C F as E σ →
    (∀ items ok cs1 F1 as1 H1 J, ki items ok cs1 → Stp as.length F as H F1 as1 H1 → Wd K C F1 as1 cs1 H1 → Src K C J m F1 as1 H1 ok items → R J H1) → wi σ H R
variable {ki : List AV → (List Cell → Prop) → List Cell → Prop}
theorem sq_some {xs : List V} {ds : List AV} (r : ARs K C F as ds xs) {t : Nat} {y : AV} (h : ds[t]? = some y) : ∃ v, xs[t]? = some v ∧ AR K C F as y v := r.get h
/-- a list that is frozen -/
theorem ei_listD (h : Ev K C E cs te fun x cs1 => IsL x fun ds => ki (ds.map AV.d) (fun _ => True) cs1) : Evi K C m E cs (iList K te) ki := fun F as H σ R w e q => by
  refine h F as H σ _ w e fun x cs1 v F1 as1 H1 ⟨ds, hx, h1⟩ s1 w1 r1 => ?_
  subst hx
  cases r1 with | d r1 =>
  obtain ⟨a, xs, rfl, hs, hd⟩ := r1.lst_inv
  have hl := hd.length
  refine ⟨a, rfl, ⟨xs, hs.same w1.fro⟩, q _ _ cs1 F1 as1 H1 _ h1 s1 w1 ⟨fun t y F2 as2 cs2 H2 ht _ s2 w2 => ?_, fun F2 as2 cs2 H2 _ s2 w2 => ?_⟩⟩
  · have hs2 := (hs.same s2.f).same w2.fro
    obtain ⟨v, hv, rv⟩ := (ARs.data (C := C) (as := as2) (s2.f.dpAll hd)).get ht
    exact ⟨⟨xs, v, hs2, hv⟩, fun x H' ⟨e1, e2⟩ => ⟨F2, by rw [e1]; exact Stp.refl, by rw [e1]; exact w2, by have := e2 xs hs2; rw [hv] at this; cases this; exact rv⟩⟩
  · have hs2 := (hs.same s2.f).same w2.fro
    exact ⟨xs, hs2, by rw [List.length_map, hl]; exact Nat.le_refl _⟩
theorem ei_tupD (h : Ev K C E cs te fun x cs1 => IsT x fun ds => ki (ds.map AV.d) (fun _ => True) cs1) : Evi K C m E cs (iTup K te) ki := fun F as H σ R w e q => by
  refine h F as H σ _ w e fun x cs1 v F1 as1 H1 ⟨ds, hx, h1⟩ s1 w1 r1 => ?_
  subst hx
  cases r1 with | d r1 =>
  obtain ⟨a, xs, rfl, hs, hd⟩ := r1.tup_inv
  have hl := hd.length
  refine ⟨a, rfl, ⟨xs, w1.fro.sqT hs⟩, q _ _ cs1 F1 as1 H1 _ h1 s1 w1 ⟨fun t y F2 as2 cs2 H2 ht _ s2 w2 => ?_, fun F2 as2 cs2 H2 _ s2 w2 => ?_⟩⟩
  · have hs2 := w2.fro.sqT (s2.f.sqT hs)
    obtain ⟨v, hv, rv⟩ := (ARs.data (C := C) (as := as2) (s2.f.dpAll hd)).get ht
    exact ⟨⟨xs, v, hs2, hv⟩, fun x H' ⟨e1, e2⟩ => ⟨F2, by rw [e1]; exact Stp.refl, by rw [e1]; exact w2, by have := e2 xs hs2; rw [hv] at this; cases this; exact rv⟩⟩
  · have hs2 := w2.fro.sqT (s2.f.sqT hs)
    exact ⟨xs, hs2, by rw [List.length_map, hl]; exact Nat.le_refl _⟩
/-- what a list cell holds -/
theorem Wd.lst (w : Wd K C F as cs H) {i : Nat} {ds : List PyData} {p : Addr} {r : List Addr} (hp : as[i]? = some (p :: r)) (h : cs[i]? = some (.l ds)) : r = [] ∧ ∃ vs, H p = some (.lst vs) ∧ DpAll K F vs ds := by
  have := w.ok i _ _ hp h
  cases this with | l h1 h2 => exact ⟨rfl, _, h1, h2⟩
theorem Wd.lsa (w : Wd K C F as cs H) {i : Nat} {xs : List AV} {p : Addr} {r : List Addr} (hp : as[i]? = some (p :: r)) (h : cs[i]? = some (.a xs)) : r = [] ∧ ∃ vs, H p = some (.lst vs) ∧ ARs K C F as xs vs := by
  have := w.ok i _ _ hp h
  cases this with | a h1 h2 => exact ⟨rfl, _, h1, h2⟩
/-- a list cell, unchanged through the loop -/
theorem ei_listC (j : Nat) (hj : j < m) (h : Ev K C E cs te fun x cs1 => x = .cel j ∧ ∃ ds, cs1[j]? = some (.l ds) ∧ ki (ds.map AV.d) (fun cs2 => cs2[j]? = some (.l ds)) cs1) : Evi K C m E cs (iList K te) ki := fun F as H σ R w e q => by
  refine h F as H σ _ w e fun x cs1 v F1 as1 H1 ⟨hx, ds, hc, h1⟩ s1 w1 r1 => ?_
  subst hx
  cases r1 with | cel hp =>
  obtain ⟨rfl, vs, hH, hd⟩ := w1.lst hp hc
  refine ⟨_, rfl, ⟨vs, SqL.of hH⟩, q _ _ cs1 F1 as1 H1 _ h1 s1 w1 ⟨fun t y F2 as2 cs2 H2 ht hok s2 w2 => ?_, fun F2 as2 cs2 H2 hok s2 w2 => ?_⟩⟩
  · obtain ⟨r, hr⟩ := s2.a j hj _ hp
    obtain ⟨_, vs2, hH2, hd2⟩ := w2.lst hr hok
    obtain ⟨v, hv, rv⟩ := (ARs.data (C := C) (as := as2) hd2).get ht
    have hs2 : SqL K H2 _ vs2 := SqL.of hH2
    exact ⟨⟨vs2, v, hs2, hv⟩, fun x H' ⟨e1, e2⟩ => ⟨F2, by rw [e1]; exact Stp.refl, by rw [e1]; exact w2, by have := e2 vs2 hs2; rw [hv] at this; cases this; exact rv⟩⟩
  · obtain ⟨r, hr⟩ := s2.a j hj _ hp
    obtain ⟨_, vs2, hH2, hd2⟩ := w2.lst hr hok
    exact ⟨vs2, SqL.of hH2, by rw [List.length_map, hd2.length]; exact Nat.le_refl _⟩
theorem ei_listA (j : Nat) (hj : j < m) (h : Ev K C E cs te fun x cs1 => x = .cel j ∧ ∃ xs, cs1[j]? = some (.a xs) ∧ ki xs (fun cs2 => cs2[j]? = some (.a xs)) cs1) : Evi K C m E cs (iList K te) ki := fun F as H σ R w e q => by
  refine h F as H σ _ w e fun x cs1 v F1 as1 H1 ⟨hx, ds, hc, h1⟩ s1 w1 r1 => ?_
  subst hx
  cases r1 with | cel hp =>
  obtain ⟨rfl, vs, hH, hd⟩ := w1.lsa hp hc
  refine ⟨_, rfl, ⟨vs, SqL.of hH⟩, q _ _ cs1 F1 as1 H1 _ h1 s1 w1 ⟨fun t y F2 as2 cs2 H2 ht hok s2 w2 => ?_, fun F2 as2 cs2 H2 hok s2 w2 => ?_⟩⟩
  · obtain ⟨r, hr⟩ := s2.a j hj _ hp
    obtain ⟨_, vs2, hH2, hd2⟩ := w2.lsa hr hok
    obtain ⟨v, hv, rv⟩ := hd2.get ht
    have hs2 : SqL K H2 _ vs2 := SqL.of hH2
    exact ⟨⟨vs2, v, hs2, hv⟩, fun x H' ⟨e1, e2⟩ => ⟨F2, by rw [e1]; exact Stp.refl, by rw [e1]; exact w2, by have := e2 vs2 hs2; rw [hv] at this; cases this; exact rv⟩⟩
  · obtain ⟨r, hr⟩ := s2.a j hj _ hp
    obtain ⟨_, vs2, hH2, hd2⟩ := w2.lsa hr hok
    exact ⟨vs2, SqL.of hH2, by rw [hd2.length]; exact Nat.le_refl _⟩
def rngA (lo : Int) (n : Nat) : List AV := (List.range n).map fun (t : Nat) => .d (.int (lo + (t : Int)))
theorem rngA_get {lo : Int} {n t : Nat} {y : AV} (h : (rngA lo n)[t]? = some y) : t < n ∧ y = .d (.int (lo + (t : Int))) := by
  unfold rngA at h
  rw [List.getElem?_map] at h
  obtain ⟨j, hj, rfl⟩ := Option.map_eq_some_iff.mp h
  obtain ⟨h1, h2⟩ := List.getElem?_eq_some_iff.mp hj
  rw [List.length_range] at h1
  rw [List.getElem_range] at h2
  subst h2
  exact ⟨h1, rfl⟩
theorem rngA_len {lo : Int} {n : Nat} : (rngA lo n).length = n := by simp [rngA]
theorem src_rng {lo : Int} {n : Nat} {H0 : Hp} {as0 : Own} {F0 : Hp} : Src K C (Itr lo n) m F0 as0 H0 (fun _ => True) (rngA lo n) :=
  ⟨fun t y F2 as2 cs2 H2 ht _ s2 w2 => by
    obtain ⟨h1, rfl⟩ := rngA_get ht
    exact ⟨h1, fun x H' ⟨e1, e2⟩ => ⟨F2, by rw [e1]; exact Stp.refl, by rw [e1]; exact w2, by rw [e2]; exact .d (.int _)⟩⟩, fun F2 as2 cs2 H2 _ s2 w2 => by rw [rngA_len]; exact Nat.le_refl n⟩
theorem ei_rng1 (h : Evs K C E cs tas fun xs cs1 => IsI1 xs fun j => -(2 ^ 62) ≤ j ∧ j < 2 ^ 62 ∧ ki (rngA 0 j.toNat) (fun _ => True) cs1) : Evi K C m E cs (iRng1 tas) ki := fun F as H σ R w e q => by
  refine h F as H σ _ w e fun xs cs1 vs F1 as1 H1 ⟨j, hx, hj1, hj2, h1⟩ s1 w1 r1 => ?_
  subst hx
  cases r1 with | cons r1 r2 =>
  cases r2
  cases r1 with | d r1 =>
  exact ⟨j, by rw [r1.int_inv], hj1, hj2, q _ _ cs1 F1 as1 H1 _ h1 s1 w1 src_rng⟩
theorem ei_rng2 (h : Evs K C E cs tas fun xs cs1 => IsI2 xs fun i j => (-(2 ^ 62) ≤ i ∧ i < 2 ^ 62 ∧ -(2 ^ 62) ≤ j ∧ j < 2 ^ 62) ∧ ki (rngA i (j - i).toNat) (fun _ => True) cs1) : Evi K C m E cs (iRng2 tas) ki := fun F as H σ R w e q => by
  refine h F as H σ _ w e fun xs cs1 vs F1 as1 H1 ⟨i, j, hx, hb, h1⟩ s1 w1 r1 => ?_
  subst hx
  cases r1 with | cons r1 r2 =>
  cases r2 with | cons r2 r3 =>
  cases r3
  cases r1 with | d r1 =>
  cases r2 with | d r2 =>
  exact ⟨i, j, by rw [r1.int_inv, r2.int_inv], hb, q _ _ cs1 F1 as1 H1 _ h1 s1 w1 src_rng⟩
/-! ### for -/
theorem ex_for {wi : TI} {g : TG} {t : TS} (m : Nat) (hnm : n ≤ m) (h : Evi K C m E cs wi fun items ok cs1 => m ≤ cs1.length ∧ ∃ Iv : Nat → AEnv → List Cell → Prop, Iv 0 E cs1 ∧ (∀ i E' cs', Iv i E' cs' → ok cs') ∧
      (∀ i y E' cs', items[i]? = some y → Iv i E' cs' → Eg K C m E' y cs' g fun E2 cs2 => Ex K C m E2 cs2 t { D with nx := Cm m (Iv (i + 1)), ct := Cm m (Iv (i + 1)), bk := Cm n D.nx }) ∧ ∀ E' cs', Iv items.length E' cs' → D.nx E' cs') :
    Ex K C n E cs (tFor wi g t) D := fun F as H σ Dc hn w e d => by
  refine h F as H σ _ w e fun items ok cs1 F1 as1 H1 J ⟨hm, Iv, h0, hok, hstep, hend⟩ s1 w1 src => ?_
  have hn' : n ≤ as.length := by rw [w.len]; exact hn
  have s1n := s1.weak hn'
  have d1 := d.later s1n
  refine ⟨fun i mm σ H => i + mm = items.length ∧ ∃ E' cs' F' as', Iv i E' cs' ∧ Stp m F1 as1 H1 F' as' H ∧ Wd K C F' as' cs' H ∧ EnvR K C F' as' E' σ, ⟨items.length, by omega, E, cs1, F1, as1, h0, Stp.refl, w1, e.mono s1.f s1.pre⟩, ?_⟩
  rintro i mm σ H ⟨him, E', cs', F', as', hI, sI, wI, eI⟩
  cases mm with
  | zero =>
    have hi : i = items.length := by omega
    subst hi
    exact .inl ⟨src.stop F' as' cs' H (hok _ _ _ hI) sI wI, d1.nx E' cs' F' as' H σ (hend _ _ hI) (sI.weak hnm) wI eI⟩
  | succ mm =>
    obtain ⟨y, hy⟩ : ∃ y, items[i]? = some y := ⟨_, List.getElem?_eq_getElem (by omega)⟩
    obtain ⟨hgo, hy2⟩ := src.turn i y F' as' cs' H hy (hok _ _ _ hI) sI wI
    refine .inr ⟨hgo, fun σ' H' => (i + 1) + mm = items.length ∧ ∃ E' cs' F' as', Iv (i + 1) E' cs' ∧ Stp m F1 as1 H1 F' as' H' ∧ Wd K C F' as' cs' H' ∧ EnvR K C F' as' E' σ', fun σ' H' h => ⟨mm, by omega, h⟩, fun x H' hx => ?_⟩
    obtain ⟨F2, s2, w2, r2⟩ := hy2 x H' hx
    have hm' : m ≤ as'.length := sI.len (by rw [w1.len]; exact hm)
    have s2m := s2.weak hm'
    refine hstep i y E' cs' hy hI F2 as' H' σ x _ (by rw [← w2.len]; exact hm') w2 (eI.mono s2.f s2.pre) r2 fun E3 cs3 F3 as3 H3 σ3 h3 s3 w3 e3 => ?_
    have s03 := sI.trans (s2m.trans s3)
    refine h3 F3 as3 H3 σ3 _ (by rw [← w3.len]; exact s3.len hm') w3 e3 ⟨fun E4 cs4 F4 as4 H4 σ4 h4 s4 w4 e4 => ?_, fun x4 cs4 F4 as4 H4 v4 h4 s4 w4 r4 => d1.rt x4 cs4 F4 as4 H4 v4 h4 ((s03.trans s4).weak hnm) w4 r4, fun E4 cs4 F4 as4 H4 σ4 h4 s4 w4 e4 => ?_, fun E4 cs4 F4 as4 H4 σ4 h4 s4 w4 e4 => ?_, fun c4 p4 E4 cs4 F4 as4 H4 σ4 dd h4 s4 w4 e4 x4 => d1.ex c4 p4 E4 cs4 F4 as4 H4 σ4 dd h4 ((s03.trans s4).weak hnm) w4 e4 x4⟩
    · exact h4.run w4 e4 (s03.trans s4) fun E5 cs5 as5 p5 s5 w5 e5 => ⟨by omega, E5, cs5, F4, as5, p5, s5, w5, e5⟩
    · exact h4.run w4 e4 ((s03.trans s4).weak hnm) fun E5 cs5 as5 p5 s5 w5 e5 => d1.nx E5 cs5 F4 as5 H4 σ4 p5 s5 w5 e5
    · exact h4.run w4 e4 (s03.trans s4) fun E5 cs5 as5 p5 s5 w5 e5 => ⟨by omega, E5, cs5, F4, as5, p5, s5, w5, e5⟩
/-! ### comprehensions -/
theorem wipe_get {σ : St} {j : Nat} : ∀ vs : List Nat, (wipe σ vs)[j]? = if j ∈ vs then (σ[j]?).map (fun _ => none) else σ[j]?
  | [] => by rw [if_neg (by simp)]; rfl
  | v :: vs => by
    rw [wipe, List.getElem?_set, wipe_get vs, wipe_length]
    by_cases e : v = j
    · subst e
      rw [if_pos rfl, if_pos (List.mem_cons_self)]
      by_cases h : v < σ.length
      · rw [if_pos h, List.getElem?_eq_getElem h]; rfl
      · rw [if_neg h, List.getElem?_eq_none (Nat.le_of_not_lt h)]; rfl
    · rw [if_neg e]
      have : (j ∈ v :: vs) ↔ j ∈ vs := by simp [Ne.symm e]
      by_cases h : j ∈ vs
      · rw [if_pos h, if_pos (this.mpr h)]
      · rw [if_neg h, if_neg (fun z => h (this.mp z))]
theorem wipe_set {σ : St} {i : Nat} {x : Option V} {vs : List Nat} (h : i ∈ vs) : wipe (σ.set i x) vs = wipe σ vs := by
  refine List.ext_getElem? fun j => ?_
  rw [wipe_get, wipe_get, List.getElem?_set]
  by_cases e : i = j
  · subst e
    rw [if_pos h, if_pos h, if_pos rfl]
    by_cases h : i < σ.length
    · rw [if_pos h, List.getElem?_eq_getElem h]; rfl
    · rw [if_neg h, List.getElem?_eq_none (Nat.le_of_not_lt h)]
      first | done | rfl
  · rw [if_neg e]
theorem wipe_wipe {σ : St} {vs : List Nat} : wipe (wipe σ vs) vs = wipe σ vs := by
  refine List.ext_getElem? fun j => ?_
  rw [wipe_get, wipe_get]
  split
  · rw [Option.map_map]; rfl
  · rfl
def wipeE (E : AEnv) : List Nat → AEnv
  | [] => E
  | v :: vs => (wipeE E vs).set v none
theorem EnvR.setN {σ : St} {i : Nat} {x : Option V} (e : EnvR K C F as E σ) : EnvR K C F as (E.set i none) (σ.set i x) := by
  refine ⟨by rw [List.length_set, List.length_set, e.len], fun j y hj => ?_⟩
  rw [List.getElem?_set] at hj
  by_cases c : i = j
  · rw [if_pos c] at hj
    split at hj <;> cases hj
  · rw [if_neg c] at hj
    rw [List.getElem?_set, if_neg c]
    exact e.get j y hj
theorem EnvR.wipe {σ : St} (e : EnvR K C F as E σ) : ∀ vs, EnvR K C F as (wipeE E vs) (wipe σ vs)
  | [] => e
  | v :: vs => (EnvR.wipe e vs).setN
/-- a comprehension's target -/
def EgC (K : PySem.W.Frag) (C : Addr) (vs : List Nat) (E : AEnv) (y : AV) (cs : List Cell) (g : TG) (kg : AEnv → List Cell → Prop) : Prop :=
  ∀ F as H σ0 σ v (Q : St → Hp → Prop), Wd K C F as cs H → EnvR K C F as E σ → AR K C F as y v → L2.wipe σ vs = σ0 → (∀ E' σ', kg E' cs → EnvR K C F as E' σ' → L2.wipe σ' vs = σ0 → Q σ' H) → g v σ H Q
def EgsC (K : PySem.W.Frag) (C : Addr) (vs : List Nat) (E : AEnv) (ys : List AV) (cs : List Cell) (g : TGs) (kg : AEnv → List Cell → Prop) : Prop :=
  ∀ F as H σ0 σ v (Q : St → Hp → Prop), Wd K C F as cs H → EnvR K C F as E σ → ARs K C F as ys v → L2.wipe σ vs = σ0 → (∀ E' σ', kg E' cs → EnvR K C F as E' σ' → L2.wipe σ' vs = σ0 → Q σ' H) → g v σ H Q
variable {vs : List Nat}
theorem egc_name {i : Nat} {y : AV} (hi : i ∈ vs) (h : kg (E.set i (some y)) cs) : EgC K C vs E y cs (gName i) kg := fun F as H σ0 σ v Q w e r hw q => q _ _ h (e.set r) (by rw [wipe_set hi]; exact hw)
theorem egsc_nil (h : kg E cs) : EgsC K C vs E [] cs gNil kg := fun F as H σ0 σ v Q w e r hw q => by cases r; exact ⟨rfl, q E σ h e hw⟩
theorem egsc_cons {i : Nat} {gr : TGs} {y : AV} {ys : List AV} (hi : i ∈ vs) (h : EgsC K C vs (E.set i (some y)) ys cs gr kg) : EgsC K C vs E (y :: ys) cs (gCons (gName i) gr) kg := fun F as H σ0 σ v Q w e r hw q => by
  cases r with | cons r1 r2 => exact ⟨_, _, rfl, h F as H σ0 _ _ Q w (e.set r1) r2 (by rw [wipe_set hi]; exact hw) q⟩
theorem egc_tupD {l : Nat} {gs : TGs} {ds : List PyData} (hl : ds.length = l) (h : EgsC K C vs E (ds.map AV.d) cs gs kg) : EgC K C vs E (.d (.tuple ds)) cs (gTup K l gs) kg := fun F as H σ0 σ v Q w e r hw q => by
  cases r with | d r =>
  obtain ⟨a, xs, rfl, h1, h2⟩ := r.tup_inv
  exact ⟨a, xs, rfl, w.fro.sqT h1, by rw [h2.length]; exact hl, h F as H σ0 σ xs Q w e (ARs.data h2) hw q⟩
theorem egc_tup {l : Nat} {gs : TGs} {ys : List AV} (hl : ys.length = l) (h : EgsC K C vs E ys cs gs kg) : EgC K C vs E (.tup ys) cs (gTup K l gs) kg := fun F as H σ0 σ v Q w e r hw q => by
  cases r with | tup h1 h2 => exact ⟨_, _, rfl, w.fro.sqT h1, by rw [← h2.length]; exact hl, h F as H σ0 σ _ Q w e h2 hw q⟩
theorem Wd.out (w : Wd K C F as cs H) {p : Addr} {o : HO} (hA : ¬ inA as p) (hF : F p = none) (ho : NoTup o) : Wd K C F as cs (upd H p o) := by
  have nb : ∀ {i own}, as[i]? = some own → ∀ b ∈ own, b ≠ p := fun hi b hb z => hA ⟨_, _, hi, z ▸ hb⟩
  refine ⟨fun b u h => ?_, fun i own hi b hb => ?_, w.sep, w.nd, w.len, fun i own c hi hc => (w.ok i own c hi hc).mono (Same.refl F) Pre.refl fun b hb o h => by rw [upd_ne (nb hi b hb)]; exact h, fun i own hi b hb u h => ?_, fun b u h n => ?_⟩
  · have nz : b ≠ p := fun z => by rw [z, hF] at h; cases h
    rw [upd_ne nz]; exact w.fro b u h
  · rw [upd_ne (nb hi b hb)]; exact w.dis i own hi b hb
  · rw [upd_ne (nb hi b hb)] at h; exact w.mu i own hi b hb u h
  · by_cases e : b = p
    · subst e; rw [upd_same] at h; cases h; exact absurd ho n
    · rw [upd_ne e] at h; exact w.tp b u h n
/-- an outer list becomes a cell -/
theorem Wd.adopt (w : Wd K C F as cs H) {p : Addr} {o : HO} {c : Cell} (hA : ¬ inA as p) (hF : F p = none) (hp : H p = some o) (ho : NoTup o) (hc : CellOk K C F (as ++ [[p]]) H [p] c) : Wd K C F (as ++ [[p]]) (cs ++ [c]) H := by
  have nb : ∀ {i own}, as[i]? = some own → ∀ b ∈ own, b ≠ p := fun hi b hb z => hA ⟨_, _, hi, z ▸ hb⟩
  refine ⟨w.fro, fun i own hi b hb => ?_, fun i j own own' hi hj hij b hb => ?_, fun i own hi => ?_, by simp [w.len], fun i own c' hi hc' => ?_, fun i own hi b hb u h => ?_, w.tp⟩
  · rcases get_snoc hi with hi | ⟨rfl, rfl⟩
    · exact w.dis i own hi b hb
    · rw [List.mem_singleton.mp hb, hp]; exact ⟨hF, by simp⟩
  · rcases get_snoc hi with hi | ⟨rfl, rfl⟩ <;> rcases get_snoc hj with hj | ⟨rfl, rfl⟩
    · exact w.sep i j own own' hi hj hij b hb
    · intro z; exact nb hi b hb (List.mem_singleton.mp z)
    · rw [List.mem_singleton.mp hb]; intro z; exact nb hj p z rfl
    · exact absurd rfl hij
  · rcases get_snoc hi with hi | ⟨rfl, rfl⟩
    · exact w.nd i own hi
    · simp
  · rcases get_snoc hi with hi | ⟨rfl, rfl⟩
    · rw [List.getElem?_append_left (by rw [← w.len]; exact (List.getElem?_eq_some_iff.mp hi).1)] at hc'
      exact (w.ok i own c' hi hc').mono (Same.refl F) Pre.snoc fun b _ o h => h
    · rw [w.len] at hc'
      rcases get_snoc hc' with z | ⟨_, rfl⟩
      · rw [List.getElem?_eq_none (Nat.le_refl _)] at z; cases z
      · exact hc
  · rcases get_snoc hi with hi | ⟨rfl, rfl⟩
    · exact w.mu i own hi b hb u h
    · rw [List.mem_singleton.mp hb, hp] at h; cases h; exact ho
theorem nonF {n : Nat} {L : Addr} {o : HO} (t : Stp n F as H F' as' H') (nF : F L = none) (hx : H L = some o) : F' L = none := by
  cases e : F' L with
  | none => rfl
  | some u =>
    rcases t.nf L u e with q | q
    · rw [nF] at q; cases q
    · rw [hx] at q; cases q
/-- [e for g in wi if tt]: the items are data -/
theorem ev_lc {k : AV → List Cell → Prop} {wi : TI} {g : TG} {tt : TT} (m : Nat) (h : Evi K C m E cs wi fun items ok cs1 => m = cs1.length ∧ items.length ≤ 99999 ∧ ∃ Iv : Nat → List PyData → List Cell → Prop, Iv 0 [] cs1 ∧ (∀ i acc cs', Iv i acc cs' → ok cs') ∧
      (∀ i y acc cs', items[i]? = some y → Iv i acc cs' → EgC K C vs (wipeE E vs) y cs' g fun E2 cs2 => Evt K C E2 cs2 tt fun b cs3 =>
        if b = true then Ev K C E2 cs3 te fun z cs4 => ∃ d, z = .d d ∧ Cl m (fun _ => Iv (i + 1) (acc ++ [d])) [] cs4 else Cl m (fun _ => Iv (i + 1) acc) [] cs3) ∧
      ∀ acc cs', Iv items.length acc cs' → k (.cel cs'.length) (cs' ++ [.l acc])) : Ev K C E cs (tLc wi g tt te vs) k := fun F as H σ Q w e z => by
  refine h F as H σ _ w e fun items ok cs1 F1 as1 H1 J ⟨hm, hlen, Iv, h0, hok, hstep, hend⟩ s1 w1 src => ?_
  subst hm
  intro L hL
  have hL1 : F1 L = none := w1.fro.free hL
  have hLA : ¬ inA as1 L := fun ⟨i, own, hi, hb⟩ => (w1.dis i own hi L hb).2 hL
  have e1 := (e.mono s1.f s1.pre).wipe vs
  have sL : Stp cs1.length F1 as1 H1 F1 as1 (upd H1 L (.lst [])) := ⟨Same.refl F1, fun i _ own h => ⟨[], by rw [List.append_nil]; exact h⟩, fun b o h _ => (Same.new hL) b o h, fun b h => (Wd.newF.updN0 h).2, fun b o h => .inl h, fun b h => .inl h⟩
  refine ⟨fun i mm H => i + mm = items.length ∧ ∃ acc xs cs' F' as', Iv i acc cs' ∧ acc.length ≤ i ∧ Stp cs1.length F1 as1 H1 F' as' H ∧ Wd K C F' as' cs' H ∧ ¬ inA as' L ∧ F' L = none ∧ H L = some (.lst xs) ∧ DpAll K F' xs acc,
    ⟨items.length, by omega, [], [], cs1, F1, as1, h0, Nat.le_refl 0, sL, w1.out hLA hL1 trivial, hLA, hL1, upd_same, .nil⟩, ?_⟩
  rintro i mm H ⟨him, acc, xs, cs', F', as', hI, hal, sI, wI, nA, nF, hx, hxs⟩
  cases mm with
  | zero =>
    have hi : i = items.length := by omega
    subst hi
    refine .inl ⟨src.stop F' as' cs' H (hok _ _ _ hI) sI wI, ?_⟩
    have w2 := wI.adopt nA nF hx trivial (c := .l acc) (.l hx hxs)
    refine z _ _ _ F' _ H (hend acc cs' hI) ?_ w2 (.cel (r := []) ?_)
    · have sI' : Stp as1.length F1 as1 H1 F' as' H := sI.weak (by rw [w1.len]; exact Nat.le_refl _)
      have t := s1.tr sI'
      refine ⟨t.f, fun i hi own ho => ?_, t.fr, t.dm, t.nf, fun b ⟨i, own, hi, hb⟩ => ?_⟩
      · obtain ⟨r, hr⟩ := t.a i hi own ho
        exact ⟨r, by rw [List.getElem?_append_left (List.getElem?_eq_some_iff.mp hr).1]; exact hr⟩
      · rcases get_snoc hi with hi | ⟨rfl, rfl⟩
        · exact t.na b ⟨i, own, hi, hb⟩
        · rw [List.mem_singleton.mp hb]; exact .inr (s1.dm L hL)
    · rw [← wI.len, List.getElem?_append_right (Nat.le_refl _)]; simp
  | succ mm =>
    obtain ⟨y, hy⟩ : ∃ y, items[i]? = some y := ⟨_, List.getElem?_eq_getElem (by omega)⟩
    obtain ⟨hgo, hy2⟩ := src.turn i y F' as' cs' H hy (hok _ _ _ hI) sI wI
    refine .inr ⟨hgo, fun H' => (i + 1) + mm = items.length ∧ ∃ acc xs cs' F' as', Iv (i + 1) acc cs' ∧ acc.length ≤ i + 1 ∧ Stp cs1.length F1 as1 H1 F' as' H' ∧ Wd K C F' as' cs' H' ∧ ¬ inA as' L ∧ F' L = none ∧ H' L = some (.lst xs) ∧ DpAll K F' xs acc, fun H' h => ⟨mm, by omega, h⟩, fun x H2 hx2 => ?_⟩
    obtain ⟨F2, s2, w2, r2⟩ := hy2 x H2 hx2
    have hmI : cs1.length ≤ as'.length := sI.len (by rw [w1.len]; exact Nat.le_refl _)
    -- the outer list through a step
    have keepL : ∀ {F3 as3 H3}, Stp as'.length F' as' H F3 as3 H3 → ¬ inA as3 L ∧ F3 L = none ∧ H3 L = some (.lst xs) := fun {F3 as3 H3} t =>
      ⟨fun q => (t.na L q).elim nA fun q => by (rw [hx] at q; cases q), nonF t nF hx, t.fr L _ hx nA⟩
    have eI : EnvR K C F2 as' (wipeE E vs) (wipe σ vs) := ⟨e1.len, fun i x h => by
      obtain ⟨v, g1, g2⟩ := e1.get i x h
      refine ⟨v, g1, (g2.mono sI.f ?_).mono s2.f s2.pre⟩
      intro i own ho
      exact sI.a i (by rw [← w1.len]; exact (List.getElem?_eq_some_iff.mp ho).1) own ho⟩
    refine hstep i y acc cs' hy hI F2 as' H2 _ _ x _ w2 eI r2 wipe_wipe fun E3 σ3 h3 e3 hw3 => ⟨hw3, ?_⟩
    refine h3 F2 as' H2 σ3 _ w2 e3 fun b cs3 F3 as3 H3 h4 s3 w3 => ?_
    have s13 := s2.tr s3
    cases b with
    | false =>
      obtain ⟨ms, j, _, hj, _, hc, hp⟩ := h4
      obtain ⟨q1, q2, q3⟩ := keepL s13
      refine ⟨by omega, acc, xs, cs3.take j, F3, as3.take j, hp, by omega, ((sI.trans (s13.weak hmI)).cut hj), w3.cut (fun c hc' => ltC_get hc hc'), fun ⟨i, own, hi, hb⟩ => q1 ⟨i, own, (get_take hi).1, hb⟩, q2, q3, (s13.f).dpAll hxs⟩
    | true =>
      refine h4 F3 as3 H3 σ3 _ w3 (e3.mono s3.f s3.pre) fun zv cs4 v F4 as4 H4 ⟨dd, hz, h5⟩ s4 w4 r4 => ?_
      subst hz
      cases r4 with | d r4 =>
      have s14 := s13.tr s4
      obtain ⟨q1, q2, q3⟩ := keepL s14
      have hxl := hxs.length
      obtain ⟨ms, j, _, hj, _, hc, hp⟩ := h5
      have w5 := w4.cut (n := j) (fun c hc' => ltC_get hc hc')
      have q1' : ¬ inA (as4.take j) L := fun ⟨i, own, hi, hb⟩ => q1 ⟨i, own, (get_take hi).1, hb⟩
      refine ⟨xs, q3, line_lt (by omega), by omega, acc ++ [dd], _, cs4.take j, F4, as4.take j, hp, by rw [List.length_append]; simp; omega, ?_, w5.out q1' q2 trivial, q1', q2, upd_same, (s14.f.dpAll hxs).snoc r4⟩
      have t := (sI.trans (s14.weak hmI)).cut hj
      exact ⟨t.f, t.a, fun b o h n => by
        have nz : b ≠ L := fun q => by rw [q, hL] at h; cases h
        rw [upd_ne nz]; exact t.fr b o h n, fun b h => t.dm b (Wd.newF.updN0 h).2, t.nf, t.na⟩
end
end Y

/-! # Pure states: calls -/
namespace Y
open PySem L2
def rho (is : List Nat) (N : Nat) (j : Nat) : Nat := match is[j]? with
  | some i => i
  | none => N + (j - is.length)
def putC {α : Type} : List α → List Nat → List α → List α
  | xs, [], ys => xs ++ ys
  | xs, i :: is, y :: ys => putC (xs.set i y) is ys
  | xs, _ :: _, [] => xs
theorem putC_len {α : Type} : ∀ {is : List Nat} {xs ys : List α}, is.length ≤ ys.length → (putC xs is ys).length = xs.length + (ys.length - is.length)
  | [], xs, ys, _ => by simp [putC]
  | i :: is, xs, y :: ys, h => by
    rw [putC, putC_len (by simpa using h)]; simp
  | i :: is, xs, [], h => by simp at h
theorem putC_off {α : Type} : ∀ {is : List Nat} {xs ys : List α} {i : Nat}, is.length ≤ ys.length → i ∉ is → i < xs.length → (putC xs is ys)[i]? = xs[i]?
  | [], xs, ys, i, _, _, h => by rw [putC, List.getElem?_append_left h]
  | j :: is, xs, y :: ys, i, hl, hn, h => by
    rw [putC, putC_off (by simpa using hl) (fun z => hn (List.mem_cons_of_mem j z)) (by simpa using h), List.getElem?_set, if_neg (fun z => hn (by simp [z]))]
  | j :: is, xs, [], i, hl, _, _ => by simp at hl
theorem putC_at {α : Type} : ∀ {is : List Nat} {xs ys : List α} {i j : Nat}, is.length ≤ ys.length → is.Nodup → is[j]? = some i → (∀ i ∈ is, i < xs.length) → (putC xs is ys)[i]? = ys[j]?
  | i :: is, xs, y :: ys, _, 0, hl, hn, h, hb => by
    simp at h; subst h
    have h1 := List.nodup_cons.mp hn
    rw [putC, putC_off (by simpa using hl) h1.1 (by simpa using hb i (by simp)), List.getElem?_set, if_pos rfl, if_pos (hb i (by simp))]; rfl
  | i0 :: is, xs, y :: ys, i, j + 1, hl, hn, h, hb => by
    have h1 := List.nodup_cons.mp hn
    rw [putC, putC_at (j := j) (by simpa using hl) h1.2 (by simpa using h) (fun i hi => by simpa using hb i (List.mem_cons_of_mem i0 hi))]; rfl
  | i :: is, xs, [], _, _, hl, _, _, _ => by simp at hl
  | [], _, _, _, _, _, _, h, _ => by simp at h
theorem putC_new {α : Type} : ∀ {is : List Nat} {xs ys : List α} {t : Nat}, is.length ≤ ys.length → (putC xs is ys)[xs.length + t]? = ys[is.length + t]?
  | [], xs, ys, t, _ => by rw [putC, List.getElem?_append_right (by omega)]; congr 1; simp
  | i :: is, xs, y :: ys, t, hl => by
    have := putC_new (is := is) (xs := xs.set i y) (ys := ys) (t := t) (by simpa using hl)
    rw [List.length_set] at this
    rw [putC, this, List.length_cons, show is.length + 1 + t = (is.length + t) + 1 by omega, List.getElem?_cons_succ]
  | i :: is, xs, [], t, hl => by simp at hl
section
variable {K : PySem.W.Frag} {C : Addr} {F F' H H' : Hp} {as as' : Own} {cs cs' cs1 : List Cell} {E : AEnv} {tas : TA}
/-! ### contracts -/
abbrev ASp := List AV → List Cell → (AV → List Cell → Prop) → Prop
def spA (K : PySem.W.Frag) (C : Addr) (A : ASp) : Sp := fun vs H Q _ => ∃ F as cs xs k, Wd K C F as cs H ∧ ARs K C F as xs vs ∧ A xs cs k ∧
  ∀ r cs' v F' as' H', k r cs' → Stp as.length F as H F' as' H' → Wd K C F' as' cs' H' → AR K C F' as' r v → Q v H'
/-- a call: is are the cells that go along, zs the arguments and cz the cells in the callee's numbers -/
structure CallOk (is : List Nat) (zs : List AV) (cz : List Cell) (xs : List AV) (cs : List Cell) : Prop where
  nd : is.Nodup
  lt : ∀ i ∈ is, i < cs.length
  args : AV.renAll (rho is cs.length) zs = xs
  al : AV.ltAll is.length zs = true
  cells : is.map (fun i => cs[i]?) = cz.map (fun c => some (c.ren (rho is cs.length)))
  cl : ltC is.length cz = true
/-- a callee's world, and back -/
theorem call_back {is : List Nat} {zs xs : List AV} {cz : List Cell} {vs : List V} (ok : CallOk is zs cz xs cs) (w : Wd K C F as cs H) (r : ARs K C F as xs vs) :
    ∃ sel : Own, Wd K C F sel cz H ∧ ARs K C F sel zs vs ∧ ∀ (F' : Hp) (as' : Own) (H' : Hp) (cz' : List Cell), Stp sel.length F sel H F' as' H' → Wd K C F' as' cz' H' →
      ∃ asN : Own, Stp as.length F as H F' asN H' ∧ Wd K C F' asN (putC cs is (cz'.map (Cell.ren (rho is cs.length)))) H' ∧ ∀ (y : AV) (v : V), AR K C F' as' y v → AR K C F' asN (y.ren (rho is cs.length)) v := by
  have hlen : cz.length = is.length := by have := congrArg List.length ok.cells; simpa using this.symm
  have hlt : ∀ i ∈ is, i < as.length := fun i hi => by rw [w.len]; exact ok.lt i hi
  -- the callee's addresses
  obtain ⟨sel, hs⟩ : ∃ sel : Own, sel = is.map fun i => as.getD i [] := ⟨_, rfl⟩
  have hsl : sel.length = is.length := by rw [hs, List.length_map]
  have getD_eq : ∀ i, i < as.length → as[i]? = some (as.getD i []) := fun i hi => by rw [List.getD_eq_getElem?_getD, List.getElem?_eq_getElem hi]; rfl
  have hsel : ∀ (j : Nat) own, sel[j]? = some own → ∃ i, is[j]? = some i ∧ as[i]? = some own := fun j own h => by
    rw [hs, List.getElem?_map] at h
    obtain ⟨i, h1, h2⟩ := Option.map_eq_some_iff.mp h
    exact ⟨i, h1, by rw [getD_eq i (hlt i (List.mem_of_getElem? h1)), h2]⟩
  have rlo : ∀ {j i : Nat}, is[j]? = some i → rho is cs.length j = i := fun h => by unfold rho; rw [h]
  have rhi : ∀ {j : Nat}, is.length ≤ j → rho is cs.length j = cs.length + (j - is.length) := fun h => by unfold rho; rw [List.getElem?_eq_none h]
  have rsel : ∀ (j : Nat), j < is.length → as[rho is cs.length j]? = sel[j]? := fun j hj => by
    have e1 : is[j]? = some is[j] := List.getElem?_eq_getElem hj
    rw [rlo e1, getD_eq _ (hlt _ (List.getElem_mem hj)), hs, List.getElem?_map, e1]; rfl
  have inj : ∀ {j j' i : Nat}, is[j]? = some i → is[j']? = some i → j = j' := fun {j j' i} h1 h2 => by
    obtain ⟨b1, e1⟩ := List.getElem?_eq_some_iff.mp h1
    obtain ⟨b2, e2⟩ := List.getElem?_eq_some_iff.mp h2
    exact (List.getElem_inj (h₀ := b1) (h₁ := b2) ok.nd).mp (e1.trans e2.symm)
  have hwd : Wd K C F sel cz H := by
    refine ⟨w.fro, fun j own hj => ?_, fun j j' own own' hj hj' hne => ?_, fun j own hj => ?_, by rw [hsl, hlen], fun j own c hj hc => ?_, fun j own hj => ?_, w.tp⟩
    · obtain ⟨i, _, h2⟩ := hsel j own hj
      exact w.dis i own h2
    · obtain ⟨i, h1, h2⟩ := hsel j own hj
      obtain ⟨i', h1', h2'⟩ := hsel j' own' hj'
      exact w.sep i i' own own' h2 h2' fun z => hne (inj h1 (z ▸ h1'))
    · obtain ⟨i, _, h2⟩ := hsel j own hj
      exact w.nd i own h2
    · obtain ⟨i, h1, h2⟩ := hsel j own hj
      have hc2 : cs[i]? = some (c.ren (rho is cs.length)) := by
        have := congrArg (fun l => l[j]?) ok.cells
        simp only [List.getElem?_map, h1, hc, Option.map_some] at this
        exact Option.some.inj this
      exact CellOk.unren rsel (ltC_get ok.cl (List.mem_of_getElem? hc)) (w.ok i own _ h2 hc2)
    · obtain ⟨i, _, h2⟩ := hsel j own hj
      exact w.mu i own h2
  refine ⟨sel, hwd, ARs.unren rsel ok.al (by rw [ok.args]; exact r), fun F' as' H' cz' s w' => ?_⟩
  have hl' : is.length ≤ as'.length := by rw [← hsl]; exact s.pre.len
  have hlc : is.length ≤ (cz'.map (Cell.ren (rho is cs.length))).length := by rw [List.length_map, ← w'.len]; exact hl'
  -- the caller's addresses behind the call
  have gsel : ∀ {i j : Nat}, is[j]? = some i → (putC as is as')[i]? = as'[j]? := fun h => putC_at hl' ok.nd h hlt
  have goff : ∀ {i : Nat}, i ∉ is → i < as.length → (putC as is as')[i]? = as[i]? := fun h1 h2 => putC_off hl' h1 h2
  have gnew : ∀ {t : Nat}, (putC as is as')[as.length + t]? = as'[is.length + t]? := putC_new hl'
  have plen : (putC as is as').length = as.length + (as'.length - is.length) := putC_len hl'
  -- what stands at an index
  have cases_at : ∀ (i : Nat) own, (putC as is as')[i]? = some own → (i ∉ is ∧ as[i]? = some own) ∨ ∃ j, as'[j]? = some own ∧ rho is cs.length j = i := fun i own h => by
    by_cases hi : i < as.length
    · by_cases hm : i ∈ is
      · obtain ⟨j, hj⟩ := List.mem_iff_getElem?.mp hm
        rw [gsel hj] at h
        exact .inr ⟨j, h, rlo hj⟩
      · rw [goff hm hi] at h; exact .inl ⟨hm, h⟩
    · have e1 : i = as.length + (i - as.length) := by omega
      rw [e1, gnew] at h
      exact .inr ⟨_, h, by rw [rhi (by omega), ← w.len]; omega⟩
  have at_new : ∀ (j : Nat) own, as'[j]? = some own → (putC as is as')[rho is cs.length j]? = some own := fun j own h => by
    by_cases hj : j < is.length
    · have e1 : is[j]? = some is[j] := List.getElem?_eq_getElem hj
      rw [rlo e1, gsel e1]; exact h
    · rw [rhi (by omega), ← w.len, gnew, show is.length + (j - is.length) = j by omega]; exact h
  have cell_at : ∀ {j : Nat} {c : Cell}, (putC cs is (cz'.map (Cell.ren (rho is cs.length))))[rho is cs.length j]? = some c → ∃ c', cz'[j]? = some c' ∧ c = c'.ren (rho is cs.length) := fun {j c} h => by
    have e : (putC cs is (cz'.map (Cell.ren (rho is cs.length))))[rho is cs.length j]? = (cz'.map (Cell.ren (rho is cs.length)))[j]? := by
      by_cases hj : j < is.length
      · have e1 : is[j]? = some is[j] := List.getElem?_eq_getElem hj
        rw [rlo e1, putC_at hlc ok.nd e1 ok.lt]
      · rw [rhi (by omega), putC_new hlc, show is.length + (j - is.length) = j by omega]
    rw [e, List.getElem?_map] at h
    obtain ⟨c', h1, h2⟩ := Option.map_eq_some_iff.mp h
    exact ⟨c', h1, h2.symm⟩
  have rinj : ∀ {j j' : Nat}, rho is cs.length j = rho is cs.length j' → j = j' := fun {j j'} h => by
    by_cases hj : j < is.length <;> by_cases hj' : j' < is.length
    · have e1 : is[j]? = some is[j] := List.getElem?_eq_getElem hj
      have e2 : is[j']? = some is[j'] := List.getElem?_eq_getElem hj'
      rw [rlo e1, rlo e2] at h
      rw [h] at e1
      exact inj e1 e2
    · have e1 : is[j]? = some is[j] := List.getElem?_eq_getElem hj
      have := ok.lt _ (List.getElem_mem hj)
      rw [rlo e1, rhi (by omega)] at h; omega
    · have e1 : is[j']? = some is[j'] := List.getElem?_eq_getElem hj'
      have := ok.lt _ (List.getElem_mem hj')
      rw [rlo e1, rhi (by omega)] at h; omega
    · rw [rhi (by omega), rhi (by omega)] at h; omega
  have inSel : ∀ b, inA sel b → inA as b := fun b ⟨j, own, hj, hb⟩ => by
    obtain ⟨i, _, h2⟩ := hsel j own hj
    exact ⟨i, own, h2, hb⟩
  -- an address of a cell that did not go along
  have offSel : ∀ {i : Nat} {own : List Addr}, i ∉ is → as[i]? = some own → ∀ b ∈ own, ¬ inA sel b := fun hi ho b hb ⟨j, own', hj, hb'⟩ => by
    obtain ⟨i', h1, h2⟩ := hsel j own' hj
    exact w.sep _ i' _ own' ho h2 (fun z => hi (z ▸ List.mem_of_getElem? h1)) b hb hb'
  have offNew : ∀ {i : Nat} {own : List Addr}, i ∉ is → as[i]? = some own → ∀ b ∈ own, ¬ inA as' b := fun hi ho b hb z => (s.na b z).elim (offSel hi ho b hb) (w.dis _ _ ho b hb).2
  have offH : ∀ {i : Nat} {own : List Addr}, i ∉ is → as[i]? = some own → ∀ b ∈ own, ∃ o, H b = some o ∧ H' b = some o := fun hi ho b hb => by
    cases e : H b with
    | none => exact absurd e (w.dis _ _ ho b hb).2
    | some o => exact ⟨o, rfl, s.fr b o e (offSel hi ho b hb)⟩
  have pre : Pre as (putC as is as') := fun i own ho => by
    by_cases hm : i ∈ is
    · obtain ⟨j, hj⟩ := List.mem_iff_getElem?.mp hm
      have hj' : sel[j]? = some own := by rw [← rsel j (List.getElem?_eq_some_iff.mp hj).1, rlo hj]; exact ho
      obtain ⟨t, ht⟩ := s.pre j own hj'
      exact ⟨t, by rw [gsel hj]; exact ht⟩
    · exact ⟨[], by rw [goff hm (List.getElem?_eq_some_iff.mp ho).1, List.append_nil]; exact ho⟩
  refine ⟨putC as is as', ⟨s.f, fun i _ own ho => pre i own ho, fun b o h n => s.fr b o h fun z => n (inSel b z), s.dm, s.nf, fun b ⟨i, own, hi, hb⟩ => ?_⟩,
    ⟨w'.fro, fun i own hi b hb => ?_, fun i i' own own' hi hi' hne b hb => ?_, fun i own hi => ?_, ?_, fun i own c hi hc => ?_, fun i own hi b hb o ho => ?_, w'.tp⟩, fun y v r' => r'.ren at_new⟩
  · rcases cases_at i own hi with ⟨_, h2⟩ | ⟨j, h2, _⟩
    · exact .inl ⟨i, own, h2, hb⟩
    · exact (s.na b ⟨j, own, h2, hb⟩).imp (inSel b) id
  · rcases cases_at i own hi with ⟨h1, h2⟩ | ⟨j, h2, _⟩
    · obtain ⟨o, e1, e2⟩ := offH h1 h2 b hb
      refine ⟨?_, by rw [e2]; simp⟩
      cases e : F' b with
      | none => rfl
      | some u =>
        rcases s.nf b u e with z | z
        · rw [(w.dis i own h2 b hb).1] at z; cases z
        · rw [e1] at z; cases z
    · exact w'.dis j own h2 b hb
  · rcases cases_at i own hi with ⟨h1, h2⟩ | ⟨j, h2, e⟩ <;> rcases cases_at i' own' hi' with ⟨h1', h2'⟩ | ⟨j', h2', e'⟩
    · exact w.sep i i' own own' h2 h2' hne b hb
    · exact fun z => offNew h1 h2 b hb ⟨j', own', h2', z⟩
    · exact fun z => offNew h1' h2' b z ⟨j, own, h2, hb⟩
    · exact w'.sep j j' own own' h2 h2' (fun z => hne (by rw [← e, ← e', z])) b hb
  · rcases cases_at i own hi with ⟨h1, h2⟩ | ⟨j, h2, _⟩
    · exact w.nd i own h2
    · exact w'.nd j own h2
  · rw [plen, putC_len hlc, List.length_map, w.len, w'.len]
  · rcases cases_at i own hi with ⟨h1, h2⟩ | ⟨j, h2, e⟩
    · have hi2 : i < cs.length := by rw [← w.len]; exact (List.getElem?_eq_some_iff.mp h2).1
      rw [putC_off hlc h1 hi2] at hc
      refine (w.ok i own c h2 hc).mono s.f pre fun b hb o ho => ?_
      obtain ⟨o', e1, e2⟩ := offH h1 h2 b hb
      rw [e1] at ho; cases ho; exact e2
    · subst e
      obtain ⟨c', h3, rfl⟩ := cell_at hc
      exact (w'.ok j own c' h2 h3).ren at_new
  · rcases cases_at i own hi with ⟨h1, h2⟩ | ⟨j, h2, _⟩
    · obtain ⟨o', e1, e2⟩ := offH h1 h2 b hb
      rw [e2] at ho; cases ho
      exact w.mu i own h2 b hb _ e1
    · exact w'.mu j own h2 b hb o ho
theorem call_core {A : ASp} {is : List Nat} {zs xs : List AV} {cz : List Cell} {k : AV → List Cell → Prop} {vs : List V} {Q : VK} (ok : CallOk is zs cz xs cs) (w : Wd K C F as cs H) (r : ARs K C F as xs vs)
    (hA : A zs cz fun y cz' => k (y.ren (rho is cs.length)) (putC cs is (cz'.map (Cell.ren (rho is cs.length))))) (q : Kt K C F as H k Q) {X : XK} : spA K C A vs H Q X := by
  obtain ⟨sel, hwd, hr, back⟩ := call_back ok w r
  refine ⟨F, sel, cz, zs, _, hwd, hr, hA, fun y cz' v F' as' H' hk s w' r' => ?_⟩
  obtain ⟨asN, s1, w1, a1⟩ := back F' as' H' cz' s w'
  exact q _ _ v F' asN H' hk s1 w1 (a1 y v r')
theorem ev_call {A : ASp} {k : AV → List Cell → Prop} {X : XK} (h : Evs K C E cs tas fun xs cs1 => ∃ is zs cz, CallOk is zs cz xs cs1 ∧ A zs cz fun y cz' => k (y.ren (rho is cs1.length)) (putC cs1 is (cz'.map (Cell.ren (rho is cs1.length))))) :
    Ev K C E cs (tCall (spA K C A) [] X tas) k := fun F as H σ Q w e z => by
  refine h F as H σ _ w e fun xs cs1 vs F1 as1 H1 ⟨is, zs, cz, ok, hA⟩ s1 w1 r1 => ?_
  show spA K C A (vs ++ []) H1 Q X
  rw [List.append_nil]
  exact call_core ok w1 r1 hA (Kt.later z s1)
/-- a call with data alone -/
theorem ev_callD {A : ASp} {k : AV → List Cell → Prop} {X : XK} (h : Evs K C E cs tas fun xs cs1 => ∃ ds, unD xs = some ds ∧ A (ds.map AV.d) [] fun y cz' => k (y.ren (rho [] cs1.length)) (putC cs1 [] (cz'.map (Cell.ren (rho [] cs1.length))))) :
    Ev K C E cs (tCall (spA K C A) [] X tas) k := ev_call fun F as H σ Q w e z => h F as H σ Q w e fun xs cs1 v F' as' H' ⟨ds, hd, hA⟩ => z xs cs1 v F' as' H' ⟨[], ds.map AV.d, [], ⟨List.nodup_nil, fun i hi => absurd hi (List.not_mem_nil), by
    rw [unD_eq hd, renAll_map, List.map_map]; rfl, by
    clear hA hd
    induction ds with
    | nil => rfl
    | cons d ds ih => simpa [AV.ltAll, AV.lt] using ih, rfl, rfl⟩, hA⟩
/-! ### a body -/
def startE (N : List Str) (xs : List AV) : AEnv := xs.map some ++ List.replicate (N.length - xs.length) none
theorem EnvR.start {N : List Str} {xs : List AV} {vs : List V} (r : ARs K C F as xs vs) : EnvR K C F as (startE N xs) (L2.start N vs) := by
  have hl := r.length
  refine ⟨by simp [startE, L2.start, hl], fun i x h => ?_⟩
  unfold startE at h
  by_cases hi : i < xs.length
  · rw [List.getElem?_append_left (by simpa using hi), List.getElem?_map] at h
    obtain ⟨y, h1, h2⟩ := Option.map_eq_some_iff.mp h
    cases h2
    obtain ⟨v, h3, h4⟩ := r.get h1
    exact ⟨v, by unfold L2.start; rw [List.getElem?_append_left (by rw [List.length_map, ← hl]; exact hi), List.getElem?_map, h3]; rfl, h4⟩
  · rw [List.getElem?_append_right (by simpa using hi)] at h
    rw [List.getElem?_replicate] at h
    split at h <;> cases h
theorem body_ok {N : List Str} {xs : List AV} {vs : List V} {t : TS} {k : AV → List Cell → Prop} {Q : VK} (w : Wd K C F as cs H) (r : ARs K C F as xs vs) (hx : Ex K C cs.length (startE N xs) cs t { nx := fun _ cs' => k (.d .none) cs', rt := k })
    (q : ∀ r cs' v F' as' H', k r cs' → Stp as.length F as H F' as' H' → Wd K C F' as' cs' H' → AR K C F' as' r v → Q v H') : t { nx := fun _ H' => Q .non H', rt := Q } (L2.start N vs) H := by
  refine hx F as H _ _ (Nat.le_refl _) w (EnvR.start r) ⟨fun E' cs' F' as' H' σ h s w' _ => q _ cs' _ F' as' H' h (s.weak (by rw [w.len]; exact Nat.le_refl _)) w' (.d .non), fun x cs' F' as' H' v h s w' r' => q x cs' v F' as' H' h (s.weak (by rw [w.len]; exact Nat.le_refl _)) w' r', fun _ _ _ _ _ _ h => h.elim, fun _ _ _ _ _ _ h => h.elim, fun _ _ _ _ _ _ _ _ _ h => h.elim⟩
theorem spA_len {A : ASp} {l : Nat} (h : ∀ xs cs k, A xs cs k → xs.length = l) {vs : List V} {H : Hp} {Q : VK} {X : XK} (g : spA K C A vs H Q X) : vs.length = l := by
  obtain ⟨F, as, cs, xs, k, _, r, hA, _⟩ := g
  rw [← r.length]; exact h _ _ _ hA
end
end Y

/-! # Pure states: operations -/
namespace Y
open PySem L2
section
variable {K : PySem.W.Frag} {C : Addr} {F F' H H' : Hp} {as as' : Own} {cs cs' cs1 : List Cell} {E : AEnv} {k : AV → List Cell → Prop} {ta tb te tc : TE} {tas tar : TA} {x y : AV}
/-! ### views -/
def lstOf (x : AV) (cs : List Cell) : Option (List PyData) := match x with
  | .d (.list ds) => some ds
  | .cel i => match cs[i]? with
    | some (.l ds) => some ds
    | _ => none
  | .sub i j => match cs[i]? with
    | some (.g _ rows) => rows[j]?
    | some (.m _ _ rows) => rows[j]?
    | _ => none
  | _ => none
def tupOf (x : AV) : Option (List PyData) := match x with
  | .d (.tuple ds) => some ds
  | _ => none
def datOf (x : AV) (cs : List Cell) : Option PyData := match x with
  | .d d => some d
  | .cel i => match cs[i]? with
    | some (.l ds) => some (.list ds)
    | _ => none
  | _ => none
theorem lstOf_at {ds : List PyData} {v : V} (h : lstOf x cs = some ds) (w : Wd K C F as cs H) (r : AR K C F as x v) : ∃ p xs, v = .ref p ∧ SqL K H p xs ∧ DpAll K F xs ds := by
  cases x with
  | d d =>
    cases r with | d r =>
    cases d with
    | list es =>
      simp [lstOf] at h; subst h
      obtain ⟨p, xs, rfl, h1, h2⟩ := r.lst_inv
      exact ⟨p, xs, rfl, h1.same w.fro, h2⟩
    | _ => simp [lstOf] at h
  | cel i =>
    cases r with | cel hp =>
    simp only [lstOf] at h
    cases e : cs[i]? with
    | none => rw [e] at h; cases h
    | some c =>
      rw [e] at h
      cases c with
      | l es =>
        simp at h; subst h
        obtain ⟨_, vs, h1, h2⟩ := w.lst hp e
        exact ⟨_, vs, rfl, SqL.of h1, h2⟩
      | _ => simp at h
  | sub i j =>
    cases r with | @sub _ _ q own hi hj =>
    simp only [lstOf] at h
    cases e : cs[i]? with
    | none => rw [e] at h; cases h
    | some c =>
      rw [e] at h
      have hc := w.ok i _ _ hi e
      cases hc with
      | g h1 h2 h3 =>
        obtain ⟨vs, g1, g2⟩ := h3.get (by simpa using hj) h
        exact ⟨_, vs, rfl, SqL.of g1, g2⟩
      | m h1 h2 h3 =>
        obtain ⟨vs, g1, g2⟩ := h3.get (by simpa using hj) h
        exact ⟨_, vs, rfl, SqL.of g1, g2⟩
      | _ => simp at h
  | _ => simp [lstOf] at h
theorem tupOf_at {ds : List PyData} {v : V} (h : tupOf x = some ds) (w : Wd K C F as cs H) (r : AR K C F as x v) : ∃ p xs, v = .ref p ∧ SqT K H p xs ∧ DpAll K F xs ds ∧ Dp K F v (.tuple ds) := by
  cases x with
  | d d =>
    cases r with | d r =>
    cases d with
    | tuple es =>
      simp [tupOf] at h; subst h
      obtain ⟨p, xs, rfl, h1, h2⟩ := r.tup_inv
      exact ⟨p, xs, rfl, w.fro.sqT h1, h2, r⟩
    | _ => simp [tupOf] at h
  | _ => simp [tupOf] at h
theorem datOf_at {d : PyData} {v : V} (h : datOf x cs = some d) (w : Wd K C F as cs H) (r : AR K C F as x v) : Dp K H v d := by
  cases x with
  | d e => simp [datOf] at h; subst h; cases r with | d r => exact w.fro.dp r
  | cel i =>
    cases r with | cel hp =>
    simp only [datOf] at h
    cases e : cs[i]? with
    | none => rw [e] at h; cases h
    | some c =>
      rw [e] at h
      cases c with
      | l es =>
        simp at h; subst h
        obtain ⟨_, vs, h1, h2⟩ := w.lst hp e
        exact .lstOf h1 (w.fro.dpAll h2)
      | _ => simp at h
  | _ => simp [datOf] at h
theorem AR.int {i : Int} {v : V} (r : AR K C F as (.d (.int i)) v) : v = .int i := by cases r with | d r => exact r.int_inv
theorem AR.str {i : Str} {v : V} (r : AR K C F as (.d (.str i)) v) : v = .str i := by cases r with | d r => exact r.str_inv
/-! ### two places -/
theorem o_int {f : Int → Int → Int} {i j : Int} (h : k (.d (.int (f i j))) cs) : O2 K C (rI0 fun i j => .int (f i j)) (.d (.int i)) (.d (.int j)) cs k := fun F as H v u Q w r1 r2 q => ⟨i, j, r1.int, r2.int, q.now h w (.d (.int _))⟩
theorem o_bl {f : Int → Int → Bool} {i j : Int} (h : k (.d (.bool (f i j))) cs) : O2 K C (rI0 fun i j => .bl (f i j)) (.d (.int i)) (.d (.int j)) cs k := fun F as H v u Q w r1 r2 q => ⟨i, j, r1.int, r2.int, q.now h w (.d (.bl _))⟩
theorem o_intC {P : Int → Int → Prop} {f : Int → Int → Int} {i j : Int} (hc : P i j) (h : k (.d (.int (f i j))) cs) : O2 K C (rI P fun i j => .int (f i j)) (.d (.int i)) (.d (.int j)) cs k := fun F as H v u Q w r1 r2 q => ⟨i, j, r1.int, r2.int, hc, q.now h w (.d (.int _))⟩
def scV : PyData → Option V
  | .int i => some (.int i)
  | .str s => some (.str s)
  | .bool b => some (.bl b)
  | .none => some .non
  | _ => none
theorem scV_at {d : PyData} {u v : V} (h : scV d = some u) (r : AR K C F as (.d d) v) : v = u := by
  cases r with | d r =>
  cases r <;> simp [scV] at h <;> exact h
theorem o_eq {a b : PyData} {u1 u2 : V} (h1 : scV a = some u1) (h2 : scV b = some u2) (hs : scal u1 u2 = true) (h : k (.d (.bool (decide (u1 = u2)))) cs) : O2 K C rEq (.d a) (.d b) cs k := fun F as H v u Q w r1 r2 q => by
  rw [scV_at h1 r1, scV_at h2 r2]; exact ⟨hs, q.now h w (.d (.bl _))⟩
theorem o_ne {a b : PyData} {u1 u2 : V} (h1 : scV a = some u1) (h2 : scV b = some u2) (hs : scal u1 u2 = true) (h : k (.d (.bool (!decide (u1 = u2)))) cs) : O2 K C rNe (.d a) (.d b) cs k := fun F as H v u Q w r1 r2 q => by
  rw [scV_at h1 r1, scV_at h2 r2]; exact ⟨hs, q.now h w (.d (.bl _))⟩
theorem o_eqD {a b : PyData} (h1 : datOf x cs = some a) (h2 : datOf y cs = some b) (s1 : SeqAt.shaped a = true) (s2 : SeqAt.shaped b = true) (h : k (.d (.bool (PyData.eqv a b))) cs) : O2 K C (rEqD K) x y cs k := fun F as H v u Q w r1 r2 q =>
  ⟨a, b, datOf_at h1 w r1, datOf_at h2 w r2, s1, s2, q.now h w (.d (.bl _))⟩
theorem o_neD {a b : PyData} (h1 : datOf x cs = some a) (h2 : datOf y cs = some b) (s1 : SeqAt.shaped a = true) (s2 : SeqAt.shaped b = true) (h : k (.d (.bool (!PyData.eqv a b))) cs) : O2 K C (rNeD K) x y cs k := fun F as H v u Q w r1 r2 q =>
  ⟨a, b, datOf_at h1 w r1, datOf_at h2 w r2, s1, s2, q.now h w (.d (.bl _))⟩
theorem o_eqA1 {r : R2} (h : O2 K C rEq x y cs k) : O2 K C (rEqA K) x y cs k := fun F as H v u Q w r1 r2 q => .inl (h F as H v u Q w r1 r2 q)
theorem o_eqA2 (h : O2 K C (rEqD K) x y cs k) : O2 K C (rEqA K) x y cs k := fun F as H v u Q w r1 r2 q => .inr (h F as H v u Q w r1 r2 q)
theorem o_neA1 (h : O2 K C rNe x y cs k) : O2 K C (rNeA K) x y cs k := fun F as H v u Q w r1 r2 q => .inl (h F as H v u Q w r1 r2 q)
theorem o_neA2 (h : O2 K C (rNeD K) x y cs k) : O2 K C (rNeA K) x y cs k := fun F as H v u Q w r1 r2 q => .inr (h F as H v u Q w r1 r2 q)
def isNn : AV → Bool
  | .d .none => true
  | _ => false
theorem isNn_at {v : V} (r : AR K C F as x v) : decide (v = V.non) = isNn x := by
  cases r with
  | d r => cases r <;> simp [isNn]
  | _ => simp [isNn]
theorem o_isN (h : k (.d (.bool (isNn x))) cs) : O2 K C (fun x y H Q => y = .non ∧ Q (.bl (decide (x = .non))) H) x (.d .none) cs k := fun F as H v u Q w r1 r2 q => by
  refine ⟨by cases r2 with | d r2 => exact r2.non_inv, ?_⟩
  rw [isNn_at r1]
  exact q.now h w (.d (.bl _))
theorem o_notN (h : k (.d (.bool (!isNn x))) cs) : O2 K C (fun x y H Q => y = .non ∧ Q (.bl (!decide (x = .non))) H) x (.d .none) cs k := fun F as H v u Q w r1 r2 q => by
  refine ⟨by cases r2 with | d r2 => exact r2.non_inv, ?_⟩
  rw [isNn_at r1]
  exact q.now h w (.d (.bl _))
theorem atI_map {α β : Type} {f : α → β} {l : List α} {i : Int} : atI (l.map f) i = (atI l i).map f := by
  unfold atI
  rw [List.length_map]
  cases ixN l.length i with
  | none => rfl
  | some j => simp [List.getElem?_map]
theorem dp_at : ∀ {xs : List V} {ds : List PyData} {i : Int} {d : PyData}, DpAll K F xs ds → atI ds i = some d → ∃ v, atI xs i = some v ∧ Dp K F v d := fun {xs ds i d} h e => by
  unfold atI at e ⊢
  rw [h.length]
  cases hn : ixN ds.length i with
  | none => rw [hn] at e; cases e
  | some j =>
    rw [hn] at e
    exact h.get e
theorem ar_at {xs : List V} {ys : List AV} {i : Int} {y : AV} (h : ARs K C F as ys xs) (e : atI ys i = some y) : ∃ v, atI xs i = some v ∧ AR K C F as y v := by
  unfold atI at e ⊢
  rw [← h.length]
  cases hn : ixN ys.length i with
  | none => rw [hn] at e; cases e
  | some j =>
    rw [hn] at e
    exact h.get e
theorem o_ixL {ds : List PyData} {i : Int} {d : PyData} (h1 : lstOf x cs = some ds) (h2 : atI ds i = some d) (h : k (.d d) cs) : O2 K C (rIxL K) x (.d (.int i)) cs k := fun F as H v u Q w r1 r2 q => by
  obtain ⟨p, xs, rfl, h3, h4⟩ := lstOf_at h1 w r1
  obtain ⟨z, h5, h6⟩ := dp_at h4 h2
  exact ⟨p, xs, i, z, rfl, r2.int, h3, h5, q.now h w (.d h6)⟩
theorem o_ixA {ys : List AV} {i : Int} {j : Nat} {y : AV} (h1 : cs[j]? = some (.a ys)) (h2 : atI ys i = some y) (h : k y cs) : O2 K C (rIxL K) (.cel j) (.d (.int i)) cs k := fun F as H v u Q w r1 r2 q => by
  cases r1 with | cel hp =>
  obtain ⟨_, vs, h3, h4⟩ := w.lsa hp h1
  obtain ⟨z, h5, h6⟩ := ar_at h4 h2
  exact ⟨_, vs, i, z, rfl, r2.int, SqL.of h3, h5, q.now h w h6⟩
theorem o_ixT {ds : List PyData} {i : Int} {d : PyData} (h1 : tupOf x = some ds) (h2 : atI ds i = some d) (h : k (.d d) cs) : O2 K C (rIxT K) x (.d (.int i)) cs k := fun F as H v u Q w r1 r2 q => by
  obtain ⟨p, xs, rfl, h3, h4, _⟩ := tupOf_at h1 w r1
  obtain ⟨z, h5, h6⟩ := dp_at h4 h2
  exact ⟨p, xs, i, z, rfl, r2.int, h3, h5, q.now h w (.d h6)⟩
theorem o_ixTA {ys : List AV} {i : Int} {y : AV} (h2 : atI ys i = some y) (h : k y cs) : O2 K C (rIxT K) (.tup ys) (.d (.int i)) cs k := fun F as H v u Q w r1 r2 q => by
  cases r1 with | tup h3 h4 =>
  obtain ⟨z, h5, h6⟩ := ar_at h4 h2
  exact ⟨_, _, i, z, rfl, r2.int, w.fro.sqT h3, h5, q.now h w h6⟩
theorem o_ix1 (h : O2 K C (rIxL K) x y cs k) : O2 K C (rIx K) x y cs k := fun F as H v u Q w r1 r2 q => .inl (h F as H v u Q w r1 r2 q)
theorem o_ix2 (h : O2 K C (rIxT K) x y cs k) : O2 K C (rIx K) x y cs k := fun F as H v u Q w r1 r2 q => .inr (.inl (h F as H v u Q w r1 r2 q))
theorem o_inT {d : PyData} {ds : List PyData} (h1 : datOf x cs = some d) (h2 : tupOf y = some ds) (s1 : SeqAt.shaped d = true) (s2 : SeqAt.shaped (.tuple ds) = true) (h : k (.d (.bool (ds.any fun z => PyData.eqv z d))) cs) : O2 K C (rInTD K) x y cs k := fun F as H v u Q w r1 r2 q => by
  obtain ⟨p, xs, rfl, _, _, h4⟩ := tupOf_at h2 w r2
  exact ⟨d, ds, datOf_at h1 w r1, w.fro.dp h4, s1, s2, q.now h w (.d (.bl _))⟩
theorem o_notInT {d : PyData} {ds : List PyData} (h1 : datOf x cs = some d) (h2 : tupOf y = some ds) (s1 : SeqAt.shaped d = true) (s2 : SeqAt.shaped (.tuple ds) = true) (h : k (.d (.bool (!ds.any fun z => PyData.eqv z d))) cs) : O2 K C (rNotInTD K) x y cs k := fun F as H v u Q w r1 r2 q => by
  obtain ⟨p, xs, rfl, _, _, h4⟩ := tupOf_at h2 w r2
  exact ⟨d, ds, datOf_at h1 w r1, w.fro.dp h4, s1, s2, q.now h w (.d (.bl _))⟩
theorem o_inL {d : PyData} {ds : List PyData} (h1 : datOf x cs = some d) (h2 : lstOf y cs = some ds) (s1 : SeqAt.shaped d = true) (s2 : SeqAt.shaped (.list ds) = true) (h : k (.d (.bool (ds.any fun z => PyData.eqv z d))) cs) : O2 K C (rInD K) x y cs k := fun F as H v u Q w r1 r2 q => by
  obtain ⟨p, xs, rfl, h3, h4⟩ := lstOf_at h2 w r2
  exact ⟨d, ds, datOf_at h1 w r1, .lst h3 (w.fro.dpAll h4), s1, s2, q.now h w (.d (.bl _))⟩
theorem o_notInL {d : PyData} {ds : List PyData} (h1 : datOf x cs = some d) (h2 : lstOf y cs = some ds) (s1 : SeqAt.shaped d = true) (s2 : SeqAt.shaped (.list ds) = true) (h : k (.d (.bool (!ds.any fun z => PyData.eqv z d))) cs) : O2 K C (rNotInD K) x y cs k := fun F as H v u Q w r1 r2 q => by
  obtain ⟨p, xs, rfl, h3, h4⟩ := lstOf_at h2 w r2
  exact ⟨d, ds, datOf_at h1 w r1, .lst h3 (w.fro.dpAll h4), s1, s2, q.now h w (.d (.bl _))⟩
/-- what a call finds behind it, where all that is new is frozen -/
theorem Kt.same {Q : VK} (q : Kt K C F as H k Q) (w : Wd K C F as cs H) (s : Same H H') {z : AV} {v : V} (h : k z cs) (r : AR K C (absF F H H') as z v) : Q v H' := by
  obtain ⟨w1, s1⟩ := w.same s
  exact q z cs v _ as H' h s1 w1 r
theorem o_catA {ds es : List PyData} (h1 : tupOf x = some ds) (h2 : tupOf y = some es) (hl : ds.length + es.length ≤ 100000) (h : k (.d (.tuple (ds ++ es))) cs) : O2 K C (rCatA K) x y cs k := fun F as H v u Q w r1 r2 q => by
  obtain ⟨p, xs, rfl, h3, h4, h5⟩ := tupOf_at h1 w r1
  obtain ⟨p', xs', rfl, h3', h4', h5'⟩ := tupOf_at h2 w r2
  refine ⟨p, p', xs, xs', rfl, rfl, h3, h3', line_of (by rw [h4.length, h4'.length]; exact hl), fun e => ?_, fun _ e => ?_, fun _ _ b hb => ?_⟩
  · subst e
    have := h4.length
    cases ds with
    | nil => exact q.now h w (.d h5')
    | cons _ _ => simp at this
  · subst e
    have := h4'.length
    cases es with
    | nil => rw [List.append_nil] at h; exact q.now h w (.d h5)
    | cons _ _ => simp at this
  · exact q.frz w hb h (.d (.tupOf upd_same ((Same.new (w.fro.free hb)).dpAll (h4.append h4'))))
theorem o_cat {i j : Nat} {ds es : List PyData} (h1 : cs[i]? = some (.l ds)) (h2 : cs[j]? = some (.l es)) (hl : ds.length + es.length ≤ 100000) (h : k (.cel cs.length) (cs ++ [.l (ds ++ es)])) : O2 K C rCat (.cel i) (.cel j) cs k := fun F as H v u Q w r1 r2 q => by
  cases r1 with | cel hp =>
  cases r2 with | cel hp' =>
  obtain ⟨_, vs, h3, h4⟩ := w.lst hp h1
  obtain ⟨_, vs', h3', h4'⟩ := w.lst hp' h2
  exact ⟨_, _, vs, vs', rfl, rfl, h3, h3', line_of (by rw [h4.length, h4'.length]; exact hl), fun b hb => q.cell w hb trivial (.l upd_same (h4.append h4')) h⟩
theorem o_catL {i j : Nat} {ds es : List AV} (h1 : cs[i]? = some (.a ds)) (h2 : cs[j]? = some (.a es)) (hl : ds.length + es.length ≤ 100000) (h : k (.cel cs.length) (cs ++ [.a (ds ++ es)])) : O2 K C rCat (.cel i) (.cel j) cs k := fun F as H v u Q w r1 r2 q => by
  cases r1 with | cel hp =>
  cases r2 with | cel hp' =>
  obtain ⟨_, vs, h3, h4⟩ := w.lsa hp h1
  obtain ⟨_, vs', h3', h4'⟩ := w.lsa hp' h2
  exact ⟨_, _, vs, vs', rfl, rfl, h3, h3', line_of (by rw [← h4.length, ← h4'.length]; exact hl), fun b hb => q.cell w hb trivial (.a upd_same ((h4.append h4').mono (Same.refl _) Pre.snoc)) h⟩
theorem dpAll_rep : ∀ (n : Nat) {xs : List V} {ds : List PyData}, DpAll K F xs ds → DpAll K F (List.replicate n xs).flatten (List.replicate n ds).flatten
  | 0, _, _, _ => .nil
  | n + 1, _, _, h => by rw [List.replicate_succ, List.replicate_succ, List.flatten_cons, List.flatten_cons]; exact h.append (dpAll_rep n h)
theorem o_rep {i : Nat} {ds : List PyData} {z : Int} (h1 : cs[i]? = some (.l ds)) (hz1 : -(2 ^ 63) ≤ z) (hz2 : z < 2 ^ 63) (hl : ds.length * z.toNat ≤ 100000) (h : k (.cel cs.length) (cs ++ [.l (List.replicate z.toNat ds).flatten])) : O2 K C rRep (.cel i) (.d (.int z)) cs k := fun F as H v u Q w r1 r2 q => by
  cases r1 with | cel hp =>
  obtain ⟨_, vs, h3, h4⟩ := w.lst hp h1
  exact ⟨_, z, vs, rfl, r2.int, h3, hz1, hz2, line_of (by rw [h4.length]; exact hl), fun b hb => q.cell w hb trivial (.l upd_same (dpAll_rep _ h4)) h⟩
theorem o_neE {ds : List PyData} (h1 : lstOf x cs = some ds) (h2 : lstOf y cs = some []) (h : k (.d (.bool (!ds.isEmpty))) cs) : O2 K C (rNeE K) x y cs k := fun F as H v u Q w r1 r2 q => by
  obtain ⟨p, xs, rfl, h3, h4⟩ := lstOf_at h1 w r1
  obtain ⟨p', xs', rfl, h3', h4'⟩ := lstOf_at h2 w r2
  cases h4'
  refine ⟨p, p', xs, rfl, rfl, h3, h3', ?_⟩
  have e : xs.isEmpty = ds.isEmpty := by have := h4.length; cases xs <;> cases ds <;> simp_all
  rw [e]
  exact q.now h w (.d (.bl _))
/-! ### slices -/
def Evo (K : PySem.W.Frag) (C : Addr) (E : AEnv) (cs : List Cell) (to : TO) (ko : Option Int → List Cell → Prop) : Prop :=
  ∀ (F : Hp) (as : Own) (H : Hp) (σ : St) (Q : Option Int → Hp → Prop), Wd K C F as cs H → EnvR K C F as E σ →
    (∀ b cs' F' as' H', ko b cs' → Stp as.length F as H F' as' H' → Wd K C F' as' cs' H' → Q b H') → to σ H Q
theorem eo_no {ko : Option Int → List Cell → Prop} (h : ko none cs) : Evo K C E cs (fun _ H Q => Q none H) ko := fun F as H σ Q w e z => z none cs F as H h Stp.refl w
theorem eo_part {ko : Option Int → List Cell → Prop} (h : Ev K C E cs te fun x cs1 => IsI x fun i => ko (some i) cs1) : Evo K C E cs (tPart te) ko := fun F as H σ Q w e z => by
  refine h F as H σ _ w e fun x cs1 v F1 as1 H1 ⟨i, hx, h1⟩ s1 w1 r1 => ?_
  subst hx
  exact ⟨i, r1.int, z (some i) cs1 F1 as1 H1 h1 s1 w1⟩
def Osl (K : PySem.W.Frag) (C : Addr) (r : V → Option Int → Option Int → Hp → VK → Prop) (x : AV) (lo hi : Option Int) (cs : List Cell) (k : AV → List Cell → Prop) : Prop :=
  ∀ (F : Hp) (as : Own) (H : Hp) (v : V) (Q : VK), Wd K C F as cs H → AR K C F as x v → Kt K C F as H k Q → r v lo hi H Q
theorem ev_sl {r : V → Option Int → Option Int → Hp → VK → Prop} {tl th : TO} (h : Ev K C E cs te fun x cs1 => Evo K C E cs1 tl fun lo cs2 => Evo K C E cs2 th fun hi cs3 => Osl K C r x lo hi cs3 k) : Ev K C E cs (tSl r te tl th) k := fun F as H σ Q w e z => by
  refine h F as H σ _ w e fun x cs1 v F1 as1 H1 h1 s1 w1 r1 => ?_
  refine h1 F1 as1 H1 σ _ w1 (e.mono s1.f s1.pre) fun lo cs2 F2 as2 H2 h2 s2 w2 => ?_
  refine h2 F2 as2 H2 σ _ w2 ((e.mono s1.f s1.pre).mono s2.f s2.pre) fun hi cs3 F3 as3 H3 h3 s3 w3 => ?_
  exact h3 F3 as3 H3 v Q w3 ((r1.mono s2.f s2.pre).mono s3.f s3.pre) (Kt.later z ((s1.tr s2).tr s3))
def cutD {α : Type} (xs : List α) (lo hi : Option Int) : List α := (xs.drop (HT.sIx xs.length 0 lo)).take (HT.sIx xs.length xs.length hi - HT.sIx xs.length 0 lo)
theorem cutD_to {α : Type} {ds : List α} {n : Nat} : cutD ds none (some (n : Int)) = ds.take n := by
  unfold cutD
  rw [HT.sIx_none, HT.sIx_nat, List.drop_zero, Nat.sub_zero]
  rcases Nat.le_total n ds.length with h | h
  · rw [Nat.min_eq_left h]
  · rw [Nat.min_eq_right h, List.take_length, List.take_of_length_le h]
theorem cutD_from {α : Type} {ds : List α} {n : Nat} : cutD ds (some (n : Int)) none = ds.drop n := by
  unfold cutD
  rw [HT.sIx_none, HT.sIx_nat]
  rcases Nat.le_total n ds.length with h | h
  · rw [Nat.min_eq_left h, List.take_of_length_le (by rw [List.length_drop]; exact Nat.le_refl _)]
  · rw [Nat.min_eq_right h, List.drop_of_length_le h, List.drop_length]; simp
theorem cutD_len {α : Type} {xs : List α} {lo hi : Option Int} : (cutD xs lo hi).length ≤ xs.length := by
  unfold cutD
  rw [List.length_take, List.length_drop]; omega
theorem cut_dp {xs : List V} {ds : List PyData} {lo hi : Option Int} (h : DpAll K F xs ds) : DpAll K F (cutV xs lo hi) (cutD ds lo hi) := by
  unfold cutV cutD
  rw [h.length]
  exact (h.drop _).take _
theorem os_tup {ds : List PyData} {lo hi : Option Int} (h1 : tupOf x = some ds) (h : k (.d (.tuple (cutD ds lo hi))) cs) : Osl K C (rSlA K) x lo hi cs k := fun F as H v Q w r q => by
  obtain ⟨p, xs, rfl, h3, h4, h5⟩ := tupOf_at h1 w r
  refine ⟨p, xs, rfl, h3, fun e => ?_, fun _ b hb => ?_⟩
  · have : cutD ds lo hi = ds := by
      unfold cutD
      rw [← h4.length, e.1, e.2, h4.length]; simp
    rw [this] at h
    exact q.now h w (.d h5)
  · exact q.frz w hb h (.d (.tupOf upd_same ((Same.new (w.fro.free hb)).dpAll (cut_dp h4))))
theorem os_lst {ds : List PyData} {lo hi : Option Int} (h1 : lstOf x cs = some ds) (h : k (.cel cs.length) (cs ++ [.l (cutD ds lo hi)])) : Osl K C (rSlL K) x lo hi cs k := fun F as H v Q w r q => by
  obtain ⟨p, xs, rfl, h3, h4⟩ := lstOf_at h1 w r
  exact ⟨p, xs, rfl, h3, fun b hb => q.cell w hb trivial (.l upd_same (cut_dp h4)) h⟩
/-! ### one place -/
theorem o1_neg {i : Int} (h : k (.d (.int (-i))) cs) : O1 K C (rU fun i => .int (-i)) (.d (.int i)) cs k := fun F as H v Q w r q => ⟨i, r.int, q.now h w (.d (.int _))⟩
/-! ### builtins -/
theorem on_max {i j : Int} (h : k (.d (.int (if j > i then j else i))) cs) : On K C (fun xs H Q => ∃ i j, xs = [.int i, .int j] ∧ Q (.int (if j > i then j else i)) H) [.d (.int i), .d (.int j)] cs k := fun F as H vs Q w r q => by
  cases r with | cons r1 r2 =>
  cases r2 with | cons r2 r3 =>
  cases r3
  exact ⟨i, j, by rw [r1.int, r2.int], q.now h w (.d (.int _))⟩
theorem on_min {i j : Int} (h : k (.d (.int (if j < i then j else i))) cs) : On K C (fun xs H Q => ∃ i j, xs = [.int i, .int j] ∧ Q (.int (if j < i then j else i)) H) [.d (.int i), .d (.int j)] cs k := fun F as H vs Q w r q => by
  cases r with | cons r1 r2 =>
  cases r2 with | cons r2 r3 =>
  cases r3
  exact ⟨i, j, by rw [r1.int, r2.int], q.now h w (.d (.int _))⟩
theorem on_abs {i : Int} (h : k (.d (.int (if i < 0 then -i else i))) cs) : On K C (fun xs H Q => ∃ i, xs = [.int i] ∧ Q (.int (if i < 0 then -i else i)) H) [.d (.int i)] cs k := fun F as H vs Q w r q => by
  cases r with | cons r1 r2 =>
  cases r2
  exact ⟨i, by rw [r1.int], q.now h w (.d (.int _))⟩
theorem on_int {i : Int} (h : k (.d (.int i)) cs) : On K C (fun xs H Q => (∃ i, xs = [.int i] ∧ Q (.int i) H) ∨ ∃ k, xs = [.bl k] ∧ Q (.int (if k then 1 else 0)) H) [.d (.int i)] cs k := fun F as H vs Q w r q => by
  cases r with | cons r1 r2 =>
  cases r2
  exact .inl ⟨i, by rw [r1.int], q.now h w (.d (.int _))⟩
theorem on_intB {b : Bool} (h : k (.d (.int (if b then 1 else 0))) cs) : On K C (fun xs H Q => (∃ i, xs = [.int i] ∧ Q (.int i) H) ∨ ∃ k, xs = [.bl k] ∧ Q (.int (if k then 1 else 0)) H) [.d (.bool b)] cs k := fun F as H vs Q w r q => by
  cases r with | cons r1 r2 =>
  cases r2
  cases r1 with | d r1 =>
  exact .inr ⟨b, by rw [r1.bl_inv], q.now h w (.d (.int _))⟩
theorem on_lenL {ds : List PyData} (h1 : lstOf x cs = some ds) (h : k (.d (.int ds.length)) cs) : On K C (rLenY K) [x] cs k := fun F as H vs Q w r q => by
  cases r with | cons r1 r2 =>
  cases r2
  obtain ⟨p, xs, rfl, h3, h4⟩ := lstOf_at h1 w r1
  exact ⟨_, ds.length, rfl, .inl ⟨xs, h3, h4.length.symm⟩, q.now h w (.d (.int _))⟩
theorem on_lenA {j : Nat} {ys : List AV} (h1 : cs[j]? = some (.a ys)) (h : k (.d (.int ys.length)) cs) : On K C (rLenY K) [.cel j] cs k := fun F as H vs Q w r q => by
  cases r with | cons r1 r2 =>
  cases r2
  cases r1 with | cel hp =>
  obtain ⟨_, xs, h3, h4⟩ := w.lsa hp h1
  exact ⟨_, ys.length, rfl, .inl ⟨xs, SqL.of h3, h4.length⟩, q.now h w (.d (.int _))⟩
theorem on_lenT {ds : List PyData} (h1 : tupOf x = some ds) (h : k (.d (.int ds.length)) cs) : On K C (rLenY K) [x] cs k := fun F as H vs Q w r q => by
  cases r with | cons r1 r2 =>
  cases r2
  obtain ⟨p, xs, rfl, h3, h4, _⟩ := tupOf_at h1 w r1
  exact ⟨_, ds.length, rfl, .inr ⟨xs, h3, h4.length.symm⟩, q.now h w (.d (.int _))⟩
theorem on_tupL {ds : List PyData} (h1 : lstOf x cs = some ds) (h : k (.d (.tuple ds)) cs) : On K C (rTupOf K) [x] cs k := fun F as H vs Q w r q => by
  cases r with | cons r1 r2 =>
  cases r2
  obtain ⟨p, xs, rfl, h3, h4⟩ := lstOf_at h1 w r1
  exact ⟨p, xs, rfl, .inl ⟨h3, fun b hb => q.frz w hb h (.d (.tupOf upd_same ((Same.new (w.fro.free hb)).dpAll h4)))⟩⟩
theorem on_tupA {j : Nat} {ys : List AV} (h1 : cs[j]? = some (.a ys)) (h : k (.tup ys) cs) : On K C (rTupOf K) [.cel j] cs k := fun F as H vs Q w r q => by
  cases r with | cons r1 r2 =>
  cases r2
  cases r1 with | cel hp =>
  obtain ⟨_, xs, h3, h4⟩ := w.lsa hp h1
  exact ⟨_, xs, rfl, .inl ⟨SqL.of h3, fun b hb => q.frz w hb h (.tup (SqT.of upd_same) (h4.mono (Same.new (w.fro.free hb)) Pre.refl))⟩⟩
theorem on_lstL {ds : List PyData} (h1 : lstOf x cs = some ds) (h : k (.cel cs.length) (cs ++ [.l ds])) : On K C (rLstOf K) [x] cs k := fun F as H vs Q w r q => by
  cases r with | cons r1 r2 =>
  cases r2
  obtain ⟨p, xs, rfl, h3, h4⟩ := lstOf_at h1 w r1
  exact ⟨p, xs, rfl, .inl h3, fun b hb => q.cell w hb trivial (.l upd_same h4) h⟩
theorem on_lstT {ds : List PyData} (h1 : tupOf x = some ds) (h : k (.cel cs.length) (cs ++ [.l ds])) : On K C (rLstOf K) [x] cs k := fun F as H vs Q w r q => by
  cases r with | cons r1 r2 =>
  cases r2
  obtain ⟨p, xs, rfl, h3, h4, _⟩ := tupOf_at h1 w r1
  exact ⟨p, xs, rfl, .inr h3, fun b hb => q.cell w hb trivial (.l upd_same h4) h⟩
theorem dp_bls : ∀ {xs : List V} {bs : List Bool}, DpAll K F xs (bs.map PyData.bool) → xs = bs.map V.bl
  | _, [], h => by cases h; rfl
  | _, b :: bs, h => by
    cases h with
    | cons h1 h2 => rw [h1.bl_inv, dp_bls h2]; rfl
theorem on_all {bs : List Bool} {ds : List PyData} (h1 : lstOf x cs = some ds) (hb : ds = bs.map PyData.bool) (h : k (.d (.bool (bs.all id))) cs) : On K C (rAll K) [x] cs k := fun F as H vs Q w r q => by
  cases r with | cons r1 r2 =>
  cases r2
  obtain ⟨p, xs, rfl, h3, h4⟩ := lstOf_at h1 w r1
  subst hb
  exact ⟨p, bs, rfl, by rw [← dp_bls h4]; exact h3, q.now h w (.d (.bl _))⟩
/-- the name of a value's built-in type -/
def tyA (x : AV) (cs : List Cell) : Option String := match x with
  | .d d => some (tyD d)
  | .tup _ => some "tuple"
  | .cel i => match cs[i]? with
    | some (.l _) => some "list"
    | some (.a _) => some "list"
    | some (.g _ _) => some "list"
    | some (.k none _) => some "dict"
    | some (.m none _ _) => some "dict"
    | _ => none
  | .dct => some "dict"
  | _ => none
theorem tyA_at {s : String} {v : V} (h : tyA x cs = some s) (w : Wd K C F as cs H) (r : AR K C F as x v) : TyX K H v (.type s) ∧ s ∈ ["NoneType", "bool", "int", "str", "list", "tuple", "dict"] := by
  cases x with
  | d d => simp [tyA] at h; subst h; cases r with | d r => exact ⟨(w.fro.dp r).ty, tyD_mem d⟩
  | tup xs =>
    simp [tyA] at h; subst h
    cases r with | tup h1 h2 =>
    refine ⟨?_, by decide⟩
    rcases w.fro.sqT h1 with (h1 | ⟨o, h1⟩) | ⟨o, its, n, h1, h3, _⟩
    · exact .base (.tup h1)
    · exact .fTuple h1
    · exact .kTuple h1 h3
  | cel i =>
    cases r with | cel hp =>
    simp only [tyA] at h
    cases e : cs[i]? with
    | none => rw [e] at h; cases h
    | some c =>
      have hc := w.ok i _ _ hp e
      rw [e] at h
      cases hc with
      | l h1 h2 => simp at h; subst h; exact ⟨.base (.lst h1), by decide⟩
      | a h1 h2 => simp at h; subst h; exact ⟨.base (.lst h1), by decide⟩
      | g h1 h2 => simp at h; subst h; exact ⟨.base (.lst h1), by decide⟩
      | @k p lk kvs xs h0 h1 h2 h3 =>
        cases lk with
        | none => simp at h; subst h; exact ⟨.base (.dK h1), by decide⟩
        | some o => simp at h
      | @m p qs lk ks rows h1 h2 h3 =>
        cases lk with
        | none => simp at h; subst h; exact ⟨.base (.dK h1), by decide⟩
        | some o => simp at h
      | x => simp at h
      | o => simp at h
  | dct =>
    simp [tyA] at h; subst h
    cases r with | dct hp => exact ⟨.base (.dK (w.fro _ _ hp)), by decide⟩
  | _ => simp [tyA] at h
theorem on_isD {s c : String} (h1 : tyA x cs = some s) (hc : c ∈ ["bool", "int", "str", "list", "tuple", "dict"]) (h : k (.d (.bool (isTy s c))) cs) : On K C (rIsD K) [x, .ty c] cs k := fun F as H vs Q w r q => by
  cases r with | cons r1 r2 =>
  cases r2 with | cons r2 r3 =>
  cases r3
  cases r2
  obtain ⟨h2, h3⟩ := tyA_at h1 w r1
  exact ⟨_, s, c, rfl, h2, h3, hc, q.now h w (.d (.bl _))⟩
/-! ### methods of lists -/
theorem ty_l {i : Nat} {ds : List PyData} (h : cs[i]? = some (.l ds)) : TyA K C "list" (.cel i) cs := fun F as H v w r => by
  cases r with | cel hp =>
  obtain ⟨_, vs, h1, _⟩ := w.lst hp h
  exact .inl ⟨rfl, vs, SqL.of h1⟩
theorem ty_a {i : Nat} {ds : List AV} (h : cs[i]? = some (.a ds)) : TyA K C "list" (.cel i) cs := fun F as H v w r => by
  cases r with | cel hp =>
  obtain ⟨_, vs, h1, _⟩ := w.lsa hp h
  exact .inl ⟨rfl, vs, SqL.of h1⟩
theorem ty_str {s : Str} : TyA K C "str" (.d (.str s)) cs := fun F as H v w r => by rw [r.str]; exact rfl
theorem Kt.put {Q : VK} (q : Kt K C F as H k Q) (w : Wd K C F as cs H) {i : Nat} {p : Addr} {o : HO} {c : Cell} (hi : as[i]? = some [p]) (ho : NoTup o) (hc : CellOk K C F as (upd H p o) [p] c) (h : k (.d .none) (cs.set i c)) : Q .non (upd H p o) := by
  obtain ⟨w1, s1⟩ := w.put hi (by simp) ho hc
  exact q _ _ _ _ _ _ h s1 w1 (.d .non)
theorem om_append {i : Nat} {ds : List PyData} {d : PyData} (h1 : cs[i]? = some (.l ds)) (hl : ds.length < 100000) (h : k (.d .none) (cs.set i (.l (ds ++ [d])))) : Om K C rAppend (.cel i) [.d d] cs k := fun F as H v vs Q w r1 r2 q => by
  cases r1 with | cel hp =>
  cases r2 with | cons r2 r3 =>
  cases r3
  cases r2 with | d r2 =>
  obtain ⟨rfl, xs, h3, h4⟩ := w.lst hp h1
  exact ⟨_, xs, _, rfl, rfl, h3, line_lt (by rw [h4.length]; exact hl), q.put w hp trivial (.l upd_same (h4.snoc r2)) h⟩
theorem om_appendA {i : Nat} {ys : List AV} {y : AV} (h1 : cs[i]? = some (.a ys)) (hl : ys.length < 100000) (h : k (.d .none) (cs.set i (.a (ys ++ [y])))) : Om K C rAppend (.cel i) [y] cs k := fun F as H v vs Q w r1 r2 q => by
  cases r1 with | cel hp =>
  cases r2 with | cons r2 r3 =>
  cases r3
  obtain ⟨rfl, xs, h3, h4⟩ := w.lsa hp h1
  exact ⟨_, xs, _, rfl, rfl, h3, line_lt (by rw [← h4.length]; exact hl), q.put w hp trivial (.a upd_same (h4.append (.cons r2 .nil))) h⟩
theorem om_insert {i : Nat} {ds : List PyData} {z : Int} {d : PyData} (h1 : cs[i]? = some (.l ds)) (hl : ds.length < 100000) (hz0 : 0 ≤ z) (hz1 : z < 2 ^ 63) (h : k (.d .none) (cs.set i (.l (ds.take z.toNat ++ [d] ++ ds.drop z.toNat)))) :
    Om K C (fun x vs H Q => ∃ (l : Addr) (xs : List V) (i : Int) (y : V), x = .ref l ∧ vs = [.int i, y] ∧ H l = some (.lst xs) ∧ xs.length < sizeLine ∧ 0 ≤ i ∧ i < 2 ^ 63 ∧ Q .non (upd H l (.lst (xs.take i.toNat ++ [y] ++ xs.drop i.toNat)))) (.cel i) [.d (.int z), .d d] cs k := fun F as H v vs Q w r1 r2 q => by
  cases r1 with | cel hp =>
  cases r2 with | cons r2 r3 =>
  cases r3 with | cons r3 r4 =>
  cases r4
  cases r3 with | d r3 =>
  obtain ⟨rfl, xs, h3, h4⟩ := w.lst hp h1
  exact ⟨_, xs, z, _, rfl, by rw [r2.int], h3, line_lt (by rw [h4.length]; exact hl), hz0, hz1, q.put w hp trivial (.l upd_same (((h4.take _).append (.one r3)).append (h4.drop _))) h⟩
theorem om_extend {i j : Nat} {ds es : List PyData} (h1 : cs[i]? = some (.l ds)) (h2 : cs[j]? = some (.l es)) (hl : ds.length + es.length ≤ 100000) (h : k (.d .none) (cs.set i (.l (ds ++ es)))) : Om K C rExtend (.cel i) [.cel j] cs k := fun F as H v vs Q w r1 r2 q => by
  cases r1 with | cel hp =>
  cases r2 with | cons r2 r3 =>
  cases r3
  cases r2 with | cel hp' =>
  obtain ⟨rfl, xs, h3, h4⟩ := w.lst hp h1
  obtain ⟨rfl, xs', h3', h4'⟩ := w.lst hp' h2
  exact ⟨_, _, xs, xs', rfl, rfl, h3, h3', line_of (by rw [h4.length, h4'.length]; exact hl), q.put w hp trivial (.l upd_same (h4.append h4')) h⟩
theorem DpAll.setD : ∀ {xs : List V} {ds : List PyData} {v : V} {d : PyData} (i : Nat), DpAll K F xs ds → Dp K F v d → DpAll K F (xs.set i v) (ds.set i d)
  | [], _, _, _, _, h, _ => by cases h; exact .nil
  | _ :: _, _, _, _, 0, h, g => by cases h with | cons h1 h2 => exact .cons g h2
  | _ :: _, _, _, _, i + 1, h, g => by cases h with | cons h1 h2 => exact .cons h1 (DpAll.setD i h2 g)
def IsSub (x z y : AV) (cs : List Cell) (f : List Cell → Prop) : Prop := ∃ (i : Nat) (ds : List PyData) (l : Int) (j : Nat) (d : PyData), x = .cel i ∧ z = .d (.int l) ∧ y = .d d ∧ cs[i]? = some (.l ds) ∧ ixN ds.length l = some j ∧ f (cs.set i (.l (ds.set j d)))
theorem isSub {i : Nat} {l : Int} {d : PyData} {ds : List PyData} {j : Nat} {f : List Cell → Prop} (h : cs[i]? = some (.l ds)) (hj : ixN ds.length l = some j) (q : f (cs.set i (.l (ds.set j d)))) : IsSub (.cel i) (.d (.int l)) (.d d) cs f := ⟨i, ds, l, j, d, rfl, rfl, rfl, h, hj, q⟩
/-- xs[i] = v -/
theorem eg_sub {n : Nat} {y : AV} {to ti : TE} {kg : AEnv → List Cell → Prop} (h : Ev K C E cs to fun x cs1 => Ev K C E cs1 ti fun z cs2 => IsSub x z y cs2 fun cs3 => kg E cs3) :
    Eg K C n E y cs (gSub to ti rSetL) kg := fun F as H σ v Q hn w e r q => by
  refine h F as H σ _ w e fun x cs1 o F1 as1 H1 h1 s1 w1 r1 => ?_
  refine h1 F1 as1 H1 σ _ w1 (e.mono s1.f s1.pre) fun z cs2 u F2 as2 H2 ⟨i, ds, l, j, d, hx, hz, hy, hc, hj, h2⟩ s2 w2 r2 => ?_
  subst hx; subst hz; subst hy
  have r1' := r1.mono s2.f s2.pre
  have s12 := s1.tr s2
  have r' := r.mono s12.f s12.pre
  cases r1' with | cel hp =>
  cases r' with | d r' =>
  obtain ⟨rfl, xs, h3, h4⟩ := w2.lst hp hc
  have hn' : n ≤ as.length := by rw [w.len]; exact hn
  obtain ⟨w3, s3⟩ := w2.put (c := .l (ds.set j d)) (o := .lst (xs.set j v)) hp (by simp) trivial (.l upd_same (DpAll.setD j h4 r'))
  refine ⟨_, xs, l, j, rfl, r2.int, h3, by rw [h4.length]; exact hj, ?_⟩
  exact q _ _ F2 as2 _ σ h2 ((s12.weak hn').trans (s3.weak (Nat.le_trans hn' s12.pre.len))) w3 ((e.mono s12.f s12.pre))
end
end Y

/-! # Pure states: more -/
namespace Y
open PySem L2
section
open PySem.Spec PyProof.Rows
variable {X : Cx}
def rCntD (K : PySem.W.Frag) : V → List V → Hp → VK → Prop := fun x xs H Q => ∃ (a : Addr) (y : V) (d : PyData) (ds : List PyData), x = V.ref a ∧ xs = [y] ∧ Dp K H (V.ref a) (.list ds) ∧ Dp K H y d ∧
  SeqAt.shaped (.list ds) = true ∧ SeqAt.shaped d = true ∧ Q (.int (ds.countP fun z => PyData.eqv z d : Nat)) H
theorem mt_countD (hu : X.A.units + 65 < cLine) : MtR X "list.count" (rCntD X.K) := by
  intro pins s σ H x xs v us Q I rx rxs h
  obtain ⟨a, y, d, ds, rfl, rfl, hl, hy, sl, sd, q⟩ := h
  cases rx
  cases rxs with
  | cons ry rt =>
    rename_i uy ut
    cases rt
    obtain ⟨bs, r1⟩ := Dp.reads I d y uy hy ry
    have hxs : PyData.canLayAll0 ds = true := SeqAt.canLay_of_shaped sl
    have hroom : X.A.units + 1 + min (PyData.depthAll ds) d.depth < cLine := room_in_shaped sd hu
    cases hl with
    | lst hs ha =>
      obtain ⟨its, rv, ⟨⟨cls, dd, data, sls⟩, n, ho, hc, hdn, hdt⟩, hlen⟩ := I.list hs
      simp only at hc hdt
      subst hc hdt
      obtain ⟨as, h4⟩ := Dp.readsAll I ds _ its ha rv
      have hmap : its.map (SeqAt.readOf s.heap) = ds := SeqAt.readsAll_map ds its as hxs h4
      refine call_meets PySem.F.slot_list_count ⟨_, ho, rfl⟩ PySem.F.entry_list_count (PySem.F.args_list_count_2 _ _)
        (SeqAt.list_countAt a its.toArray n dd sls uy (fun u => PyData.eqv (SeqAt.readOf s.heap u) d)) ⟨ho, SeqAt.items_eqAt (vs := its.toArray) (show ReadsAll s.heap its.toArray.toList ds as from h4) r1 hxs (SeqAt.canLay_of_shaped sd) hroom, ?_⟩
      refine ⟨.int (ds.countP fun z => PyData.eqv z d : Nat), H, I.tok _, ⟨s.toks, ?_⟩, q⟩
      have e : its.toArray.toList.countP (fun u => PyData.eqv (SeqAt.readOf s.heap u) d) = ds.countP fun z => PyData.eqv z d := by
        rw [← hmap, List.countP_map]; rfl
      show Value.int ((its.toArray.toList.countP _ : Nat) : Int) s.toks = _
      rw [e]
theorem mt_countDK (K : PySem.W.Frag) (hu : X.A.units + 65 < cLine) (hK : X.K = K := by rfl) : MtR X "list.count" (rCntD K) := by subst hK; exact mt_countD hu
theorem pe_bmK2 (K : PySem.W.Frag) {o e : Expr} {es : List Expr} {to : TE} {t : TA} {name : Str} {apos cpos : Pos} {T id : String} {r : V → List V → Hp → VK → Prop} (pa : PlainAttrs T) (slot : Slot T name id) (hty : typeOf (.builtin id) = pure (.type "method_descriptor")) (hm : MtR X id r) (ho : PE X o to) (ha : PA X (e :: es) t) (hK : X.K = K := by rfl) (hb : attributeBase o name X.env (eval o X.env) = eval o X.env := by rfl) (hf : ((backTo cpos (starEach (e :: es) X.env)).all (fun x => !x.1) && (backToKw cpos (keywordEach [] X.env)).all (fun x => x.1.isSome) && decide ((e :: es).length + ([] : List Keyword).length + (if ([] : List Keyword).isEmpty then 0 else 1) < 30)) = true := by rfl) (hl : (apos.endLine == cpos.line) = true := by rfl) (hs : starEach (e :: es) X.env = (false, eval e X.env) :: starEach es X.env := by rfl) (hp : (backTo cpos (starEach es X.env)).any (·.1) = false := by rfl) : PE X (.Call (.Attribute o name apos) (e :: es) [] cpos) (tBM K T r to t) := by
  subst hK; exact pe_bm pa slot hty hm ho ha hb hf hl hs hp
theorem pe_bm0K (K : PySem.W.Frag) {o : Expr} {to : TE} {name : Str} {apos cpos : Pos} {T id : String} {r : V → List V → Hp → VK → Prop} (pa : PlainAttrs T) (slot : Slot T name id) (hty : typeOf (.builtin id) = pure (.type "method_descriptor")) (hm : MtR X id r) (ho : PE X o to)
    (hK : X.K = K := by rfl) (hbase : attributeBase o name X.env (eval o X.env) = eval o X.env := by rfl) (hline : (apos.endLine == cpos.line) = true := by rfl) : PE X (.Call (.Attribute o name apos) [] [] cpos) (tBM0 K T r to) := by
  subst hK; exact pe_bm0 pa slot hty hm ho hbase hline
theorem cr_maxK (K : PySem.W.Frag) (hc : X.calm = true) (hK : X.K = K := by rfl) : CallR X (.builtin "max") (rMax K) := by subst hK; exact cr_max hc
theorem cr_minK (K : PySem.W.Frag) (hc : X.calm = true) (hK : X.K = K := by rfl) : CallR X (.builtin "min") (rMin K) := by subst hK; exact cr_min hc
theorem pa_starK (K : PySem.W.Frag) {e : Expr} {p : Pos} {es : List Expr} {te : TE} {t : TA} (he : PE X e te) (hr : PA X es t) (hK : X.K = K := by rfl) : PA X (.Starred e p :: es) (StX.tStar K te t) := by subst hK; exact StX.pa_star he hr
end
section
variable {K : PySem.W.Frag} {C : Addr} {F F' H H' : Hp} {as as' : Own} {cs cs' cs1 : List Cell} {E : AEnv} {k : AV → List Cell → Prop} {x y : AV}
theorem om_count {d : PyData} {ds : List PyData} (h1 : lstOf x cs = some ds) (h2 : datOf y cs = some d) (s1 : SeqAt.shaped (.list ds) = true) (s2 : SeqAt.shaped d = true) (h : k (.d (.int (ds.countP fun z => PyData.eqv z d : Nat))) cs) : Om K C (rCntD K) x [y] cs k := fun F as H v vs Q w r1 r2 q => by
  cases r2 with | cons r2 r3 =>
  cases r3
  obtain ⟨p, xs, rfl, h3, h4⟩ := lstOf_at h1 w r1
  exact ⟨p, _, d, ds, rfl, rfl, .lst h3 (w.fro.dpAll h4), datOf_at h2 w r2, s1, s2, q.now h w (.d (.int _))⟩
/-- what a callee says of a new list -/
theorem Kt.newL {Q : VK} (q : Kt K C F as H k Q) (w : Wd K C F as cs H) (s : Same H H') {f : Addr} {xs : List V} {ds : List PyData} (nf : H f = none) (hf : H' f = some (.lst xs)) (hx : DpAll K H' xs ds) (im : immAll ds = true) (h : k (.cel cs.length) (cs ++ [.l ds])) : Q (.ref f) H' := by
  obtain ⟨H1, e1⟩ : ∃ H1 : Hp, H1 = fun b => if b = f then none else H' b := ⟨_, rfl⟩
  have n1 : H1 f = none := by rw [e1]; simp
  have o1 : ∀ b, b ≠ f → H1 b = H' b := fun b hb => by rw [e1]; simp [hb]
  have s1 : Same H H1 := fun b o hb => by
    have : b ≠ f := fun z => by rw [z, nf] at hb; cases hb
    rw [o1 b this]; exact s b o hb
  have e2 : upd H1 f (.lst xs) = H' := by
    funext b
    by_cases hb : b = f
    · subst hb; rw [upd_same, hf]
    · rw [upd_ne hb, o1 b hb]
  have t1 : Tups H' H1 := ⟨fun a ys ha => by
    have : a ≠ f := fun z => by rw [z, hf] at ha; cases ha
    rw [o1 a this]; exact ha, fun a o ys ha => by
    have : a ≠ f := fun z => by rw [z, hf] at ha; cases ha
    rw [o1 a this]; exact ha⟩
  obtain ⟨w1, st1⟩ := w.same s1
  have d1 := w1.immAll im (t1.dpAll im hx)
  rw [← e2]
  exact (Kt.later q st1).cell w1 n1 trivial (.l upd_same d1) h
/-- .. of new data that never changes -/
theorem Kt.newD {Q : VK} (q : Kt K C F as H k Q) (w : Wd K C F as cs H) (s : Same H H') {v : V} {d : PyData} (hx : Dp K H' v d) (im : imm d = true) (h : k (.d d) cs) : Q v H' := by
  obtain ⟨w1, st1⟩ := w.same s
  exact q _ _ _ _ _ _ h st1 w1 (.d (w1.imm im hx))
/-- .. of a new script -/
theorem Kt.newS {Q : VK} (q : Kt K C F as H k Q) (w : Wd K C F as cs H) (s : Same H H') {a : Addr} {ds : List PyData} (na : H a = none) (hx : ScrA K C H' a ds) (im : immAll ds = true) (h : k (.scr ds) cs) : Q (.ref a) H' := by
  obtain ⟨w1, st1⟩ := w.same s
  obtain ⟨dx, v, h1, h2⟩ := hx
  exact q _ _ _ _ _ _ h st1 w1 (.scr ⟨dx, v, by rw [absF_new na]; exact h1, w1.imm (d := .tuple ds) im h2⟩)
theorem dp_ints : ∀ {xs : List V} {ns : List Int}, DpAll K F xs (ns.map PyData.int) → xs = ns.map V.int
  | _, [], h => by cases h; rfl
  | _, n :: ns, h => by
    cases h with
    | cons h1 h2 => rw [h1.int_inv, dp_ints h2]; rfl
theorem on_max1 {ns : List Int} {ds : List PyData} (h1 : lstOf x cs = some ds) (hd : ds = ns.map PyData.int) (hn : 0 < ns.length) (h : ∀ m, m ∈ ns → (∀ y, y ∈ ns → y ≤ m) → k (.d (.int m)) cs) : On K C (rMax K) [x] cs k := fun F as H vs Q w r q => by
  cases r with | cons r1 r2 =>
  cases r2
  obtain ⟨p, xs, rfl, h3, h4⟩ := lstOf_at h1 w r1
  subst hd
  exact ⟨p, ns, rfl, by rw [← dp_ints h4]; exact h3, hn, fun m hm hy => q.now (h m hm hy) w (.d (.int _))⟩
theorem on_min1 {ns : List Int} {ds : List PyData} (h1 : lstOf x cs = some ds) (hd : ds = ns.map PyData.int) (hn : 0 < ns.length) (h : ∀ m, m ∈ ns → (∀ y, y ∈ ns → m ≤ y) → k (.d (.int m)) cs) : On K C (rMin K) [x] cs k := fun F as H vs Q w r q => by
  cases r with | cons r1 r2 =>
  cases r2
  obtain ⟨p, xs, rfl, h3, h4⟩ := lstOf_at h1 w r1
  subst hd
  exact ⟨p, ns, rfl, by rw [← dp_ints h4]; exact h3, hn, fun m hm hy => q.now (h m hm hy) w (.d (.int _))⟩
theorem evs_starD {te : TE} {t : TA} {kl : List AV → List Cell → Prop} (h : Ev K C E cs te fun x cs1 => ∃ ds, tupOf x = some ds ∧ Evs K C E cs1 t fun xs cs2 => kl (ds.map AV.d ++ xs) cs2) : Evs K C E cs (StX.tStar K te t) kl := fun F as H σ Q w e z => by
  refine h F as H σ _ w e fun x cs1 v F1 as1 H1 ⟨ds, hd, h1⟩ s1 w1 r1 => ?_
  obtain ⟨p, xs, rfl, h3, h4, _⟩ := tupOf_at hd w1 r1
  refine ⟨p, xs, rfl, .inl h3, ?_⟩
  refine h1 F1 as1 H1 σ _ w1 (e.mono s1.f s1.pre) fun ys cs2 us F2 as2 H2 h2 s2 w2 r2 => ?_
  exact z _ cs2 _ F2 as2 H2 h2 (s1.tr s2) w2 ((ARs.data (s2.f.dpAll h4)).append r2)
/-! ### a body's end: what is over is dropped -/
def Rt (n : Nat) (k : AV → List Cell → Prop) (x : AV) (cs' : List Cell) : Prop :=
  (∃ j, n ≤ j ∧ AV.lt j x = true ∧ ltC j (cs'.take j) = true ∧ k x (cs'.take j)) ∨
  ∃ j ds, x = .cel j ∧ cs'[j]? = some (.l ds) ∧ n ≤ j ∧ ltC n (cs'.take n) = true ∧ k (.cel n) (cs'.take n ++ [.l ds])
theorem Wd.pick (w : Wd K C F as cs H) {n j : Nat} {own : List Addr} {ds : List PyData} (hn : n ≤ j) (ho : as[j]? = some own) (hc : cs[j]? = some (.l ds)) (hl : ltC n (cs.take n) = true) : Wd K C F (as.take n ++ [own]) (cs.take n ++ [.l ds]) H := by
  have hj : j < as.length := (List.getElem?_eq_some_iff.mp ho).1
  have hn' : n ≤ as.length := by omega
  have lt : (as.take n).length = n := by rw [List.length_take]; omega
  have w1 := w.cut (n := n) fun c hc' => ltC_get hl hc'
  refine ⟨w.fro, fun i o hi b hb => ?_, fun i i' o o' hi hi' hne b hb => ?_, fun i o hi => ?_, by rw [List.length_append, List.length_append, w1.len]; rfl, fun i o c hi hc' => ?_, fun i o hi b hb u h => ?_, w.tp⟩
  · rcases get_snoc hi with hi | ⟨_, rfl⟩
    · exact w1.dis i o hi b hb
    · exact w.dis j o ho b hb
  · rcases get_snoc hi with g1 | ⟨e1, q1⟩ <;> rcases get_snoc hi' with g2 | ⟨e2, q2⟩
    · exact w1.sep i i' o o' g1 g2 hne b hb
    · have := get_take g1
      rw [q2]
      exact w.sep i j o own this.1 ho (by omega) b hb
    · have := get_take g2
      rw [q1] at hb
      exact w.sep j i' own o' ho this.1 (by omega) b hb
    · exact absurd (e1.trans e2.symm) hne
  · rcases get_snoc hi with hi | ⟨_, rfl⟩
    · exact w1.nd i o hi
    · exact w.nd j o ho
  · rcases get_snoc hi with hi | ⟨e1, rfl⟩
    · rw [List.getElem?_append_left (by rw [← w1.len]; exact (List.getElem?_eq_some_iff.mp hi).1)] at hc'
      exact (w1.ok i o c hi hc').mono (Same.refl F) Pre.snoc fun b _ u h => h
    · rw [e1, w1.len] at hc'
      rcases get_snoc hc' with z | ⟨_, rfl⟩
      · rw [List.getElem?_eq_none (Nat.le_refl _)] at z; cases z
      · have := w.ok j _ _ ho hc
        cases this with | l h1 h2 => exact .l h1 h2
  · rcases get_snoc hi with hi | ⟨_, rfl⟩
    · exact w1.mu i o hi b hb u h
    · exact w.mu j o ho b hb u h
theorem body_rt {N : List Str} {xs : List AV} {vs : List V} {t : TS} {Q : VK} (w : Wd K C F as cs H) (r : ARs K C F as xs vs) (hx : Ex K C cs.length (startE N xs) cs t { nx := fun _ cs' => Rt cs.length k (.d .none) cs', rt := Rt cs.length k })
    (q : ∀ r cs' v F' as' H', k r cs' → Stp as.length F as H F' as' H' → Wd K C F' as' cs' H' → AR K C F' as' r v → Q v H') : t { nx := fun _ H' => Q .non H', rt := Q } (L2.start N vs) H := by
  have key : ∀ r cs' v F' as' H', Rt cs.length k r cs' → Stp as.length F as H F' as' H' → Wd K C F' as' cs' H' → AR K C F' as' r v → Q v H' := fun r cs' v F' as' H' h s w' r' => by
    rcases h with ⟨j, h1, h2, h3, h4⟩ | ⟨j, ds, rfl, h2, h3, h4, h5⟩
    · exact q r _ v F' _ H' h4 (s.cut (by rw [w.len]; exact h1)) (w'.cut fun c hc => ltC_get h3 hc) (r'.cut h2)
    · cases r' with | cel hp =>
      obtain ⟨rfl, _⟩ := w'.lst hp h2
      have lt : (as'.take cs.length).length = cs.length := by rw [List.length_take, ← w.len]; have := s.pre.len; omega
      refine q _ _ _ F' _ H' h5 ?_ (w'.pick h3 hp h2 h4) (.cel (r := []) (by rw [List.getElem?_append_right (Nat.le_of_eq lt), lt]; simp))
      have s1 := s.cut (m := cs.length) (by rw [w.len]; exact Nat.le_refl _)
      exact ⟨s1.f, fun i hi own ho => by
        obtain ⟨r, e⟩ := s1.a i hi own ho
        exact ⟨r, by rw [List.getElem?_append_left (List.getElem?_eq_some_iff.mp e).1]; exact e⟩, s1.fr, s1.dm, s1.nf, fun b ⟨i, own, hi, hb⟩ => by
        rcases get_snoc hi with hi | ⟨_, rfl⟩
        · exact s1.na b ⟨i, own, hi, hb⟩
        · exact s.na b ⟨j, _, hp, hb⟩⟩
  exact body_ok w r hx key
theorem body_go {N : List Str} {xs : List AV} {vs : List V} {t : TS} {Q : VK} {n : Nat} (E : AEnv) (hE : startE N xs = E) (hn : cs.length = n) (w : Wd K C F as cs H) (r : ARs K C F as xs vs) (hx : Ex K C n E cs t { nx := fun _ cs' => Rt n k (.d .none) cs', rt := Rt n k })
    (q : ∀ r cs' v F' as' H', k r cs' → Stp as.length F as H F' as' H' → Wd K C F' as' cs' H' → AR K C F' as' r v → Q v H') : t { nx := fun _ H' => Q .non H', rt := Q } (L2.start N vs) H := by
  subst hE; subst hn
  exact body_rt w r hx q
theorem Rt.here {n : Nat} {x : AV} (h : k x cs) (h1 : n ≤ cs.length) (h2 : AV.lt cs.length x = true) (h3 : ltC cs.length cs = true) : Rt n k x cs := .inl ⟨cs.length, h1, h2, by rw [List.take_length]; exact h3, by rw [List.take_length]; exact h⟩
theorem Rt.cut {n : Nat} {x : AV} (j : Nat) (h : k x (cs.take j)) (h1 : n ≤ j) (h2 : AV.lt j x = true) (h3 : ltC j (cs.take j) = true) : Rt n k x cs := .inl ⟨j, h1, h2, h3, h⟩
theorem Rt.pick {n j : Nat} {ds : List PyData} (hc : cs[j]? = some (.l ds)) (h : k (.cel n) (cs.take n ++ [.l ds])) (h1 : n ≤ j) (h3 : ltC n (cs.take n) = true) : Rt n k (.cel j) cs := .inr ⟨j, ds, rfl, hc, h1, h3, h⟩
theorem ex_mid {n : Nat} {D : AEnds} {t u : TS} (Mid : AEnv → List Cell → Prop) (h : Ex K C n E cs t { D with nx := Mid }) (q : ∀ E' cs', Mid E' cs' → Ex K C n E' cs' u D) : Ex K C n E cs (C8.tCut t u) D := fun F as H σ Dc hn w e d => by
  have hn' : n ≤ as.length := by rw [w.len]; exact hn
  refine ⟨fun σ' H' => ∃ E' cs' F' as', Mid E' cs' ∧ Stp n F as H F' as' H' ∧ Wd K C F' as' cs' H' ∧ EnvR K C F' as' E' σ', ?_, ?_⟩
  · exact h F as H σ _ hn w e ⟨fun E' cs' F' as' H' σ' g s w' e' => ⟨E', cs', F', as', g, s, w', e'⟩, d.rt, d.bk, d.ct, d.ex⟩
  · rintro σ' H' ⟨E', cs', F', as', g, s, w', e'⟩
    exact q E' cs' g F' as' H' σ' Dc (by rw [← w'.len]; exact s.len hn') w' e' (d.later s)
theorem ev_chain {r r' : R2} {ta tb tc : TE} (h : Ev K C E cs ta fun x cs1 => Ev K C E cs1 tb fun y cs2 => O2 K C r x y cs2 fun z cs3 => IsB z fun b => if b = true then Ev K C E cs3 tc fun u cs4 => O2 K C r' y u cs4 k else k (.d (.bool false)) cs3) : Ev K C E cs (tChain r r' ta tb tc) k := fun F as H σ Q w e z => by
  refine h F as H σ _ w e fun x cs1 v F1 as1 H1 h1 s1 w1 r1 => ?_
  refine h1 F1 as1 H1 σ _ w1 (e.mono s1.f s1.pre) fun y cs2 u F2 as2 H2 h2 s2 w2 r2 => ?_
  refine h2 F2 as2 H2 v u _ w2 (r1.mono s2.f s2.pre) r2 fun bz cs3 bv F3 as3 H3 ⟨b, hb, h3⟩ s3 w3 r3 => ?_
  subst hb
  cases r3 with | d r3 =>
  have s13 := (s1.tr s2).tr s3
  refine ⟨b, r3.bl_inv, ?_⟩
  cases b with
  | false => exact z _ cs3 _ F3 as3 H3 h3 s13 w3 (.d (.bl false))
  | true =>
    refine h3 F3 as3 H3 σ _ w3 (e.mono s13.f s13.pre) fun y2 cs4 u2 F4 as4 H4 h4 s4 w4 r4 => ?_
    exact h4 F4 as4 H4 u u2 Q w4 ((r2.mono s3.f s3.pre).mono s4.f s4.pre) r4 (Kt.later z (s13.tr s4))
/-- a method of a script, by its contract -/
theorem ev_methD {A : ASp} {m : Str} {X : XK} {te : TE} {tas : TA} (hm : m ≠ "kept_steps") (h : Ev K C E cs te fun x cs1 => IsScr x fun ds => Evs K C E cs1 tas fun xs cs2 => IsDs xs fun es => A (.scr ds :: es.map AV.d) [] fun y cz' => k (y.ren (rho [] cs2.length)) (putC cs2 [] (cz'.map (Cell.ren (rho [] cs2.length))))) : Ev K C E cs (tMeth C m (spA K C A) [] X te tas) k := fun F as H σ Q w e z => by
  refine h F as H σ _ w e fun x cs1 v F1 as1 H1 ⟨ds, hx, h1⟩ s1 w1 r1 => ?_
  subst hx
  have r1' := r1
  cases r1 with | scr hs =>
  obtain ⟨dx, u, h2, h3⟩ := hs
  refine ⟨_, dx, _, rfl, w1.fro _ _ h2, by rw [lookup_putF, if_neg hm]; rfl, ?_⟩
  refine h1 F1 as1 H1 σ _ w1 (e.mono s1.f s1.pre) fun xs cs2 vs F2 as2 H2 ⟨es, he, _, hA⟩ s2 w2 r2 => ?_
  rw [List.append_nil]
  refine call_core (is := []) (zs := .scr ds :: es.map AV.d) (cz := []) (xs := .scr ds :: xs) ⟨List.nodup_nil, fun i hi => absurd hi (List.not_mem_nil), ?_, ?_, rfl, rfl⟩ w2 (.cons (r1'.mono s2.f s2.pre) r2) hA (Kt.later z (s1.tr s2))
  · rw [unD_eq he]
    show AV.scr ds :: AV.renAll _ _ = _
    rw [renAll_map, List.map_map]; rfl
  · show (AV.lt 0 (.scr ds) && AV.ltAll 0 (es.map AV.d)) = true
    have : ∀ es : List PyData, AV.ltAll 0 (es.map AV.d) = true := fun es => by
      induction es with
      | nil => rfl
      | cons d ds ih => simpa [AV.ltAll, AV.lt] using ih
    rw [this]; rfl
theorem ite_f {A B : Prop} (h : B) : if false = true then A else B := h
theorem ite_t {A B : Prop} (h : A) : if true = true then A else B := h
/-- [e for g in wi if tt], where nothing changes -/
theorem ev_lcP {te : TE} {wi : TI} {g : TG} {tt : TT} {vs : List Nat} (m : Nat) (f : Nat → Bool) (v : Nat → PyData) (h : Evi K C m E cs wi fun items ok cs1 => cs1.length = m ∧ items.length ≤ 99999 ∧ ok cs1 ∧ ltC m cs1 = true ∧
      (∀ i y, items[i]? = some y → EgC K C vs (wipeE E vs) y cs1 g fun E2 cs2 => Evt K C E2 cs2 tt fun b cs3 => b = f i ∧ cs3.take m = cs1 ∧ (b = true → Ev K C E2 cs3 te fun z cs4 => z = .d (v i) ∧ cs4.take m = cs1)) ∧
      k (.cel m) (cs1 ++ [.l (((List.range items.length).filter f).map v)])) : Ev K C E cs (tLc wi g tt te vs) k := by
  refine ev_lc m fun F as H σ R w e q => h F as H σ R w e fun items ok cs1 F1 as1 H1 J ⟨hl, hz, hok, hlt, hstep, hk⟩ => q items ok cs1 F1 as1 H1 J ⟨hl.symm, hz, fun i acc cs' => cs' = cs1 ∧ acc = ((List.range i).filter f).map v, ⟨rfl, rfl⟩, fun i acc cs' hi => by rw [hi.1]; exact hok, ?_, ?_⟩
  · rintro i y acc cs' hy ⟨rfl, rfl⟩
    intro F as H σ0 σ v' Q w e r hw q
    refine hstep i y hy F as H σ0 σ v' Q w e r hw fun E' σ' hE e' hw' => q E' σ' ?_ e' hw'
    intro F as H σ Q w e z
    refine hE F as H σ Q w e fun b cs3 F' as' H' ⟨hb, h3, h4⟩ => z b cs3 F' as' H' ?_
    cases b with
    | false =>
      refine ite_f ⟨[], m, rfl, Nat.le_refl m, rfl, by rw [h3]; exact hlt, h3, ?_⟩
      rw [List.range_succ, List.filter_append, List.filter_cons_of_neg (by rw [← hb]; decide)]; simp
    | true =>
      refine ite_t fun F as H σ Q w e z => h4 rfl F as H σ Q w e fun z' cs4 v' F' as' H' ⟨hz', h5⟩ => z z' cs4 v' F' as' H' ⟨v i, hz', [], m, rfl, Nat.le_refl m, rfl, by rw [h5]; exact hlt, h5, ?_⟩
      rw [List.range_succ, List.filter_append, List.filter_cons_of_pos (by rw [← hb])]; simp
  · rintro acc cs' ⟨rfl, rfl⟩
    rw [hl]; exact hk
/-- a cut that drops what is over -/
theorem ex_midC {n : Nat} {D : AEnds} {t u : TS} (Mid : AEnv → List Cell → Prop) (h : Ex K C n E cs t { D with nx := Cm n Mid }) (q : ∀ E' cs', Mid E' cs' → Ex K C n E' cs' u D) : Ex K C n E cs (C8.tCut t u) D :=
  ex_mid (Cm n Mid) h fun E' cs' hc F as H σ Dc hn w e d => by
    refine hc.run w e (Stp.refl (n := n)) fun E1 cs1 as1 p s1 w1 e1 => ?_
    have hn' : n ≤ as.length := by rw [w.len]; exact hn
    exact q E1 cs1 p F as1 H σ Dc (by rw [← w1.len]; exact s1.len hn') w1 e1 (d.later s1)
/-! ### scripts -/
theorem ev_steps {m : Str} {sp : Sp} {X : XK} {te : TE} (hsp : ∀ a dx v H Q, H a = some (.ins C dx (putF "kept_steps" v [])) → Q v H → sp [.ref a] H Q X) (hm : m ≠ "kept_steps") (h : Ev K C E cs te fun x cs1 => IsScr x fun ds => k (.d (.tuple ds)) cs1) : Ev K C E cs (tMeth C m sp [] X te tNil) k := fun F as H σ Q w e z => by
  refine h F as H σ _ w e fun x cs1 v F1 as1 H1 ⟨ds, hx, h1⟩ s1 w1 r1 => ?_
  subst hx
  cases r1 with | scr hs =>
  obtain ⟨dx, u, h2, h3⟩ := hs
  have h2' := w1.fro _ _ h2
  exact ⟨_, dx, _, rfl, h2', by rw [lookup_putF, if_neg hm]; rfl, hsp _ dx u H1 _ h2' (z _ cs1 u F1 as1 H1 h1 s1 w1 (.d h3))⟩
end
end Y

/-! # Pure states: results with several parts -/
namespace Y
open PySem L2
section
variable {K : PySem.W.Frag} {C : Addr} {F F' H H' : Hp} {as as' : Own} {cs cs' cs1 : List Cell} {E : AEnv} {k : AV → List Cell → Prop} {x y : AV}
theorem Rt.run {r : AV} {v : V} {R : Prop} (h : Rt cs.length k r cs') (w : Wd K C F as cs H) (s : Stp as.length F as H F' as' H') (w' : Wd K C F' as' cs' H') (r' : AR K C F' as' r v)
    (q : ∀ r1 cs1 as1, k r1 cs1 → Stp as.length F as H F' as1 H' → Wd K C F' as1 cs1 H' → AR K C F' as1 r1 v → R) : R := by
  rcases h with ⟨j, h1, h2, h3, h4⟩ | ⟨j, ds, rfl, h2, h3, h4, h5⟩
  · exact q r _ _ h4 (s.cut (by rw [w.len]; exact h1)) (w'.cut fun c hc => ltC_get h3 hc) (r'.cut h2)
  · cases r' with | cel hp =>
    obtain ⟨rfl, _⟩ := w'.lst hp h2
    have lt : (as'.take cs.length).length = cs.length := by rw [List.length_take, ← w.len]; have := s.pre.len; omega
    refine q _ _ _ h5 ?_ (w'.pick h3 hp h2 h4) (.cel (r := []) (by rw [List.getElem?_append_right (Nat.le_of_eq lt), lt]; simp))
    have s1 := s.cut (m := cs.length) (by rw [w.len]; exact Nat.le_refl _)
    exact ⟨s1.f, fun i hi own ho => by
      obtain ⟨r, e⟩ := s1.a i hi own ho
      exact ⟨r, by rw [List.getElem?_append_left (List.getElem?_eq_some_iff.mp e).1]; exact e⟩, s1.fr, s1.dm, s1.nf, fun b ⟨i, own, hi, hb⟩ => by
      rcases get_snoc hi with hi | ⟨_, rfl⟩
      · exact s1.na b ⟨i, own, hi, hb⟩
      · exact s.na b ⟨j, _, hp, hb⟩⟩
/-- a result, its cells kept, all else dropped -/
def Rs (n : Nat) (k : AV → List Cell → Prop) (x : AV) (cs' : List Cell) : Prop := Rt n k x cs' ∨ ∃ js x1 cs1, Sel n js [some x1] cs1 [some x] cs' ∧ k x1 cs1
theorem body_go2 {N : List Str} {xs : List AV} {vs : List V} {t : TS} {Q : VK} {n : Nat} (E : AEnv) (hE : startE N xs = E) (hn : cs.length = n) (w : Wd K C F as cs H) (r : ARs K C F as xs vs) (hx : Ex K C n E cs t { nx := fun _ cs' => Rs n k (.d .none) cs', rt := Rs n k })
    (q : ∀ r cs' v F' as' H', k r cs' → Stp as.length F as H F' as' H' → Wd K C F' as' cs' H' → AR K C F' as' r v → Q v H') : t { nx := fun _ H' => Q .non H', rt := Q } (L2.start N vs) H := by
  subst hn; subst hE
  have key : ∀ r cs' v F' as' H', Rs cs.length k r cs' → Stp as.length F as H F' as' H' → Wd K C F' as' cs' H' → AR K C F' as' r v → Q v H' := fun r cs' v F' as' H' h s w' r' => by
    rcases h with h | ⟨js, x1, cs1, S, hk⟩
    · exact h.run w s w' r' fun r1 cs1 as1 hk s1 w1 a1 => q r1 cs1 v F' as1 H' hk s1 w1 a1
    · have e : EnvR K C F' as' [some r] [some v] := ⟨rfl, fun i x hx => by
        cases i with
        | zero => simp at hx; subst hx; exact ⟨v, rfl, r'⟩
        | succ i => simp at hx⟩
      rw [← w.len] at S
      obtain ⟨as1, s1, w1, e1⟩ := S.run w' e s
      obtain ⟨v', h1, h2⟩ := e1.get 0 x1 rfl
      cases h1
      exact q _ cs1 _ F' as1 H' hk s1 w1 h2
  exact body_ok (k := fun x cs' => Rs cs.length k x cs') w r hx key
theorem Rs.sel {n : Nat} (js : List Nat) {x1 : AV} (S : Sel n js [some x1] cs1 [some x] cs) (h : k x1 cs1) : Rs n k x cs := .inr ⟨js, x1, cs1, S, h⟩
/-- what a callee says of a tuple of two new lists -/
theorem Kt.newT {Q : VK} (q : Kt K C F as H k Q) (w : Wd K C F as cs H) (s : Same H H') {t e f : Addr} {xs ys : List V} {ds es : List PyData} (nt : H t = none) (ne : H e = none) (nf : H f = none) (hef : e ≠ f) (ht : H' t = some (.tup [.ref e, .ref f])) (he : H' e = some (.lst xs)) (hf : H' f = some (.lst ys))
    (hx : DpAll K H' xs ds) (hy : DpAll K H' ys es) (im : immAll ds = true) (im2 : immAll es = true) (h : k (.tup [.cel cs.length, .cel (cs.length + 1)]) (cs ++ [.l ds] ++ [.l es])) : Q (.ref t) H' := by
  have te : t ≠ e := fun z => by rw [z, he] at ht; cases ht
  have tf : t ≠ f := fun z => by rw [z, hf] at ht; cases ht
  obtain ⟨H1, e1⟩ : ∃ H1 : Hp, H1 = fun b => if b = e ∨ b = f then none else H' b := ⟨_, rfl⟩
  have n1 : H1 e = none := by rw [e1]; simp
  have n2 : H1 f = none := by rw [e1]; simp
  have o1 : ∀ b, b ≠ e → b ≠ f → H1 b = H' b := fun b hb hb2 => by rw [e1]; simp [hb, hb2]
  have s1 : Same H H1 := fun b o hb => by
    have h1 : b ≠ e := fun z => by rw [z, ne] at hb; cases hb
    have h2 : b ≠ f := fun z => by rw [z, nf] at hb; cases hb
    rw [o1 b h1 h2]; exact s b o hb
  have n2' : upd H1 e (.lst xs) f = none := by rw [upd_ne (Ne.symm hef)]; exact n2
  have e2 : upd (upd H1 e (.lst xs)) f (.lst ys) = H' := by
    funext b
    by_cases hb : b = f
    · subst hb; rw [upd_same, hf]
    · rw [upd_ne hb]
      by_cases hb2 : b = e
      · subst hb2; rw [upd_same, he]
      · rw [upd_ne hb2, o1 b hb2 hb]
  have t1 : Tups H' H1 := ⟨fun a zs ha => by
    have h1 : a ≠ e := fun z => by rw [z, he] at ha; cases ha
    have h2 : a ≠ f := fun z => by rw [z, hf] at ha; cases ha
    rw [o1 a h1 h2]; exact ha, fun a o zs ha => by
    have h1 : a ≠ e := fun z => by rw [z, he] at ha; cases ha
    have h2 : a ≠ f := fun z => by rw [z, hf] at ha; cases ha
    rw [o1 a h1 h2]; exact ha⟩
  obtain ⟨w1, st1⟩ := w.same s1
  have d1 := w1.immAll im (t1.dpAll im hx)
  have d2 := w1.immAll im2 (t1.dpAll im2 hy)
  obtain ⟨w2, st2⟩ := w1.newC (c := .l ds) (o := .lst xs) n1 trivial (.l upd_same d1)
  obtain ⟨w3, st3⟩ := w2.newC (c := .l es) (o := .lst ys) n2' trivial (.l upd_same d2)
  rw [← e2]
  have l1 : (as ++ [[e]]).length = cs.length + 1 := by rw [List.length_append, w.len]; rfl
  refine q _ _ _ _ _ _ h ((st1.tr st2).tr st3) w3 (.tup (vs := [.ref e, .ref f]) (SqT.of ?_) (.cons (.cel (p := e) (r := []) ?_) (.cons (.cel (p := f) (r := []) ?_) .nil)))
  · rw [absF_new nt, o1 t te tf]; exact ht
  · rw [List.getElem?_append_left (by rw [l1]; omega), ← w.len, List.getElem?_append_right (Nat.le_refl _)]; simp
  · rw [← l1, List.getElem?_append_right (Nat.le_refl _)]; simp
/-! ### data with lists in it -/
mutual
def dat2 (x : AV) (cs : List Cell) : Option PyData := match x with
  | .d d => some d
  | .cel i => match cs[i]? with
    | some (.l ds) => some (.list ds)
    | _ => none
  | .tup xs => match dat2s xs cs with
    | some ds => some (.tuple ds)
    | none => none
  | _ => none
def dat2s (xs : List AV) (cs : List Cell) : Option (List PyData) := match xs with
  | [] => some []
  | x :: xs => match dat2 x cs, dat2s xs cs with
    | some d, some ds => some (d :: ds)
    | _, _ => none
end
mutual
theorem dat2_at (w : Wd K C F as cs H) : ∀ {x : AV} {d : PyData} {v : V}, dat2 x cs = some d → AR K C F as x v → Dp K H v d
  | .d e, d, v, h, r => by simp [dat2] at h; subst h; cases r with | d r => exact w.fro.dp r
  | .cel i, d, v, h, r => datOf_at (x := .cel i) (by rw [← h]; rfl) w r
  | .tup xs, d, v, h, r => by
    simp only [dat2] at h
    cases e : dat2s xs cs with
    | none => rw [e] at h; cases h
    | some ds =>
      rw [e] at h; cases h
      cases r with | tup h1 h2 => exact .tup (w.fro.sqT h1) (dat2s_at w e h2)
  | .sub _ _, _, _, h, _ => by simp [dat2] at h
  | .scr _, _, _, h, _ => by simp [dat2] at h
  | .ty _, _, _, h, _ => by simp [dat2] at h
  | .dct, _, _, h, _ => by simp [dat2] at h
  | .raw _, _, _, h, _ => by simp [dat2] at h
  | .exn _ _ _ _, _, _, h, _ => by simp [dat2] at h
theorem dat2s_at (w : Wd K C F as cs H) : ∀ {xs : List AV} {ds : List PyData} {vs : List V}, dat2s xs cs = some ds → ARs K C F as xs vs → DpAll K H vs ds
  | [], ds, vs, h, r => by simp [dat2s] at h; subst h; cases r; exact .nil
  | x :: xs, ds, vs, h, r => by
    simp only [dat2s] at h
    cases e1 : dat2 x cs with
    | none => rw [e1] at h; simp at h
    | some d =>
      cases e2 : dat2s xs cs with
      | none => rw [e1, e2] at h; simp at h
      | some es =>
        rw [e1, e2] at h; cases h
        cases r with | cons h1 h2 => exact .cons (dat2_at w e1 h1) (dat2s_at w e2 h2)
end
/-- == of data with lists in it -/
theorem o_eqD2 {a b : PyData} (h1 : dat2 x cs = some a) (h2 : dat2 y cs = some b) (s1 : SeqAt.shaped a = true) (s2 : SeqAt.shaped b = true) (h : k (.d (.bool (PyData.eqv a b))) cs) : O2 K C (rEqD K) x y cs k := fun F as H v u Q w r1 r2 q =>
  ⟨a, b, dat2_at w h1 r1, dat2_at w h2 r2, s1, s2, q.now h w (.d (.bl _))⟩
theorem o_neD2 {a b : PyData} (h1 : dat2 x cs = some a) (h2 : dat2 y cs = some b) (s1 : SeqAt.shaped a = true) (s2 : SeqAt.shaped b = true) (h : k (.d (.bool (!PyData.eqv a b))) cs) : O2 K C (rNeD K) x y cs k := fun F as H v u Q w r1 r2 q =>
  ⟨a, b, dat2_at w h1 r1, dat2_at w h2 r2, s1, s2, q.now h w (.d (.bl _))⟩
end
end Y

/-! # Pure states: grids (lists of own lists) and dicts -/
namespace Y
open PySem L2
section
variable {K : PySem.W.Frag} {C : Addr} {F F' H H' : Hp} {as as' : Own} {cs cs' cs1 : List Cell} {E : AEnv} {k : AV → List Cell → Prop} {ta tb te tc td ty : TE} {tas tar : TA} {x y : AV}
/-! ### rows -/
theorem Wd.grid (w : Wd K C F as cs H) {i : Nat} {ix : List Nat} {rows : List (List PyData)} {p : Addr} {qs : List Addr} (hp : as[i]? = some (p :: qs)) (h : cs[i]? = some (.g ix rows)) : H p = some (.lst (rowsV qs ix)) ∧ (∀ j ∈ ix, j < rows.length) ∧ GridOk K F H qs rows := by
  cases w.ok i _ _ hp h with
  | g h1 h2 h3 => exact ⟨h1, h2, h3⟩
theorem Wd.dkt (w : Wd K C F as cs H) {i : Nat} {lk : Option (Obj × List (Key × V))} {xs : List (Key × AV)} {p : Addr} {qs : List Addr} (hp : as[i]? = some (p :: qs)) (h : cs[i]? = some (.k lk xs)) : qs = [] ∧ ∃ kvs, lkK lk kvs ∧ H p = some (lkO (lk.map Prod.fst) (.dK kvs)) ∧ kvs.map Prod.fst = xs.map Prod.fst ∧ ARs K C F as (xs.map Prod.snd) (kvs.map Prod.snd) := by
  cases w.ok i _ _ hp h with
  | k h0 h1 h2 h3 => exact ⟨rfl, _, h0, h1, h2, h3⟩
theorem Wd.drw (w : Wd K C F as cs H) {i : Nat} {lk : Option Obj} {ks : List (Key × Nat)} {rows : List (List PyData)} {p : Addr} {qs : List Addr} (hp : as[i]? = some (p :: qs)) (h : cs[i]? = some (.m lk ks rows)) : H p = some (lkO lk (.dK (rowsK qs ks))) ∧ (∀ x ∈ ks, x.2 < rows.length) ∧ GridOk K F H qs rows := by
  cases w.ok i _ _ hp h with
  | m h1 h2 h3 => exact ⟨h1, h2, h3⟩
theorem getD_get {qs : List Addr} {j : Nat} (h : j < qs.length) : qs[j]? = some (qs.getD j 0) := by
  rw [List.getD_eq_getElem?_getD, List.getElem?_eq_getElem h]; rfl
theorem row_at {i : Nat} {p : Addr} {qs : List Addr} {rows : List (List PyData)} {j : Nat} (hp : as[i]? = some (p :: qs)) (g : GridOk K F H qs rows) (h : j < rows.length) : AR K C F as (.sub i j) (.ref (qs.getD j 0)) := .sub hp (by rw [List.getElem?_cons_succ]; exact getD_get (by rw [g.len]; exact h))
/-- olds[k]: a row -/
theorem o_ixG {i : Nat} {ix : List Nat} {rows : List (List PyData)} {z : Int} {j : Nat} (h1 : cs[i]? = some (.g ix rows)) (h2 : atI ix z = some j) (h : k (.sub i j) cs) : O2 K C (rIxL K) (.cel i) (.d (.int z)) cs k := fun F as H v u Q w r1 r2 q => by
  cases r1 with | @cel _ p qs hp =>
  obtain ⟨g1, g2, g3⟩ := w.grid hp h1
  have hj : j ∈ ix := by
    unfold atI at h2
    obtain ⟨n, _, hn⟩ := Option.bind_eq_some_iff.mp h2
    exact List.mem_of_getElem? hn
  refine ⟨p, rowsV qs ix, z, .ref (qs.getD j 0), rfl, r2.int, SqL.of g1, ?_, q.now h w (row_at hp g3 (g2 j hj))⟩
  rw [rowsV, atI_map, h2]; rfl
theorem on_lenG {i : Nat} {ix : List Nat} {rows : List (List PyData)} (h1 : cs[i]? = some (.g ix rows)) (h : k (.d (.int ix.length)) cs) : On K C (rLenY K) [.cel i] cs k := fun F as H vs Q w r q => by
  cases r with | cons r r2 =>
  cases r2
  cases r with | @cel _ p qs hp =>
  obtain ⟨g1, _, _⟩ := w.grid hp h1
  exact ⟨_, ix.length, rfl, .inl ⟨_, SqL.of g1, by rw [rowsV, List.length_map]⟩, q.now h w (.d (.int _))⟩
theorem GridOk.set : ∀ {qs : List Addr} {rs : List (List PyData)} {j : Nat} {q : Addr} {vs : List V} {r : List PyData}, GridOk K F H qs rs → qs.Nodup → qs[j]? = some q → DpAll K F vs r → GridOk K F (upd H q (.lst vs)) qs (rs.set j r)
  | _, _, _, _, _, _, .nil, _, h, _ => by simp at h
  | q0 :: qs, _, 0, q, vs, r, .cons h1 h2 h3, nd, h, hr => by
    simp at h; subst h
    have n := List.nodup_cons.mp nd
    exact .cons upd_same hr (h3.mono (Same.refl F) fun b hb o ho => by
      have ne : b ≠ q0 := fun z => n.1 (by rw [← z]; exact hb)
      rw [upd_ne ne]; exact ho)
  | q0 :: qs, _, j + 1, q, vs, r, .cons h1 h2 h3, nd, h, hr => by
    have n := List.nodup_cons.mp nd
    have hq : qs[j]? = some q := by simpa using h
    have ne : q0 ≠ q := fun z => n.1 (by rw [z]; exact List.mem_of_getElem? hq)
    exact .cons (by rw [upd_ne ne]; exact h1) h2 (GridOk.set h3 n.2 hq hr)
theorem GridOk.snoc : ∀ {qs : List Addr} {rs : List (List PyData)} {q : Addr} {vs : List V} {r : List PyData}, GridOk K F H qs rs → H q = some (.lst vs) → DpAll K F vs r → GridOk K F H (qs ++ [q]) (rs ++ [r])
  | _, _, _, _, _, .nil, h, hr => .cons h hr .nil
  | _, _, _, _, _, .cons h1 h2 h3, h, hr => .cons h1 h2 (GridOk.snoc h3 h hr)
def Cell.rows : Cell → Option (List (List PyData))
  | .g _ r => some r
  | .m _ _ r => some r
  | _ => none
def Cell.setRows : Cell → List (List PyData) → Cell
  | .g ix _, r => .g ix r
  | .m lk ks _, r => .m lk ks r
  | c, _ => c
theorem Wd.setRow (w : Wd K C F as cs H) {i j : Nat} {c : Cell} {rows : List (List PyData)} {row : List PyData} {p q : Addr} {qs : List Addr} {vs : List V} (hp : as[i]? = some (p :: qs)) (hc : cs[i]? = some c) (hr : c.rows = some rows) (hq : qs[j]? = some q) (hv : DpAll K F vs row) :
    Wd K C F as (cs.set i (c.setRows (rows.set j row))) (upd H q (.lst vs)) ∧ Stp as.length F as H F as (upd H q (.lst vs)) := by
  have nd := List.nodup_cons.mp (w.nd i _ hp)
  have hqm := List.mem_of_getElem? hq
  have npq : p ≠ q := fun z => nd.1 (z ▸ hqm)
  refine w.put hp (List.mem_cons_of_mem _ hqm) trivial ?_
  cases w.ok i _ _ hp hc with
  | g h1 h2 h3 =>
    cases hr
    exact .g (by rw [upd_ne npq]; exact h1) (fun x hx => by rw [List.length_set]; exact h2 x hx) (h3.set nd.2 hq hv)
  | m h1 h2 h3 =>
    cases hr
    exact .m (by rw [upd_ne npq]; exact h1) (fun x hx => by rw [List.length_set]; exact h2 x hx) (h3.set nd.2 hq hv)
  | _ => cases hr
def IsSubG (x z y : AV) (cs : List Cell) (f : List Cell → Prop) : Prop := ∃ (i j : Nat) (c : Cell) (rows : List (List PyData)) (row : List PyData) (l : Int) (m : Nat) (d : PyData), x = .sub i j ∧ z = .d (.int l) ∧ y = .d d ∧ cs[i]? = some c ∧ c.rows = some rows ∧ rows[j]? = some row ∧ ixN row.length l = some m ∧ f (cs.set i (c.setRows (rows.set j (row.set m d))))
/-- line[z] = y, line a row -/
theorem eg_subG {n : Nat} {y : AV} {to ti : TE} {kg : AEnv → List Cell → Prop} (h : Ev K C E cs to fun x cs1 => Ev K C E cs1 ti fun z cs2 => IsSubG x z y cs2 fun cs3 => kg E cs3) :
    Eg K C n E y cs (gSub to ti rSetL) kg := fun F as H σ v Q hn w e r q => by
  refine h F as H σ _ w e fun x cs1 o F1 as1 H1 h1 s1 w1 r1 => ?_
  refine h1 F1 as1 H1 σ _ w1 (e.mono s1.f s1.pre) fun z cs2 u F2 as2 H2 ⟨i, j, c, rows, row, l, m, d, hx, hz, hy, hc, hr, hw, hj, h2⟩ s2 w2 r2 => ?_
  subst hx; subst hz; subst hy
  have r1' := r1.mono s2.f s2.pre
  have s12 := s1.tr s2
  have r' := r.mono s12.f s12.pre
  cases r1' with | @sub _ _ q0 own hp hq =>
  cases r' with | d r' =>
  have hn' : n ≤ as.length := by rw [w.len]; exact hn
  obtain ⟨p, qs, rfl⟩ : ∃ p qs, own = p :: qs := by
    cases own with
    | nil => simp at hq
    | cons p qs => exact ⟨p, qs, rfl⟩
  have hq' : qs[j]? = some q0 := by simpa using hq
  obtain ⟨vs, g1, g2⟩ : ∃ vs, H2 q0 = some (.lst vs) ∧ DpAll K F2 vs row := by
    cases w2.ok i _ _ hp hc with
    | g h1 h2 h3 => cases hr; exact h3.get hq' hw
    | m h1 h2 h3 => cases hr; exact h3.get hq' hw
    | _ => cases hr
  obtain ⟨w3, s3⟩ := w2.setRow (vs := vs.set m v) hp hc hr hq' (DpAll.setD m g2 r')
  refine ⟨_, vs, l, m, rfl, r2.int, g1, by rw [g2.length]; exact hj, ?_⟩
  exact q _ _ F2 as2 _ σ h2 ((s12.weak hn').trans (s3.weak (Nat.le_trans hn' s12.pre.len))) w3 ((e.mono s12.f s12.pre))
/-! ### a row more -/
theorem set_get {α : Type} {l : List α} {i j : Nat} {a x : α} (h : (l.set i a)[j]? = some x) : (j = i ∧ x = a ∧ i < l.length) ∨ (j ≠ i ∧ l[j]? = some x) := by
  rw [List.getElem?_set] at h
  by_cases e : i = j
  · subst e
    rw [if_pos rfl] at h
    split at h
    · exact .inl ⟨rfl, (Option.some.inj h).symm, by assumption⟩
    · cases h
  · rw [if_neg e] at h
    exact .inr ⟨fun z => e z.symm, h⟩
theorem Wd.grow (w : Wd K C F as cs H) {i : Nat} {p q : Addr} {qs : List Addr} {vs : List V} {o : HO} {c : Cell} (hp : as[i]? = some (p :: qs)) (hq : H q = none) (ho : NoTup o) (hc : CellOk K C F (as.set i (p :: (qs ++ [q]))) (upd (upd H q (.lst vs)) p o) (p :: (qs ++ [q])) c) :
    Wd K C F (as.set i (p :: (qs ++ [q]))) (cs.set i c) (upd (upd H q (.lst vs)) p o) ∧ Stp as.length F as H F (as.set i (p :: (qs ++ [q]))) (upd (upd H q (.lst vs)) p o) := by
  have hi := (List.getElem?_eq_some_iff.mp hp).1
  have hpd := w.dis i _ hp p (by simp)
  have npq : p ≠ q := fun z => hpd.2 (z ▸ hq)
  have hF : F q = none := w.fro.free hq
  have pre : Pre as (as.set i (p :: (qs ++ [q]))) := fun j own h => by
    by_cases e : j = i
    · subst e
      rw [hp] at h; cases h
      exact ⟨[q], by rw [List.getElem?_set, if_pos rfl, if_pos hi]; rfl⟩
    · exact ⟨[], by rw [List.getElem?_set, if_neg (fun z => e z.symm), List.append_nil]; exact h⟩
  have ne : ∀ {b : Addr}, b ≠ p → b ≠ q → upd (upd H q (.lst vs)) p o b = H b := fun h1 h2 => by rw [upd_ne h1, upd_ne h2]
  have keepB : ∀ {b : Addr} {u : HO}, H b = some u → b ≠ p → upd (upd H q (.lst vs)) p o b = some u := fun hb hn => by rw [ne hn (fun z => by rw [z, hq] at hb; cases hb)]; exact hb
  have mem : ∀ {b : Addr}, b ∈ p :: (qs ++ [q]) → b ∈ p :: qs ∨ b = q := fun h => by
    simp only [List.mem_cons, List.mem_append, List.not_mem_nil, or_false] at h ⊢
    rcases h with h | h | h
    · exact .inl (.inl h)
    · exact .inl (.inr h)
    · exact .inr h
  have there : ∀ {b : Addr}, H b ≠ none → upd (upd H q (.lst vs)) p o b ≠ none := fun {b} hb => by
    by_cases e : b = p
    · subst e; rw [upd_same]; simp
    · rw [upd_ne e]
      by_cases e2 : b = q
      · subst e2; rw [upd_same]; simp
      · rw [upd_ne e2]; exact hb
  refine ⟨⟨fun b u h => ?_, fun j own h b hb => ?_, fun j l own own' h h' hjl b hb hb' => ?_, fun j own h => ?_, by rw [List.length_set, List.length_set, w.len], fun j own d h hd => ?_, fun j own h b hb u hu => ?_, fun b u h n => ?_⟩, ⟨Same.refl F, fun j _ own h => pre j own h, fun b u h n => ?_, fun b h => ?_, fun b u h => .inl h, fun b ⟨j, own, h, hb⟩ => ?_⟩⟩
  · exact keepB (w.fro b u h) (fun z => by rw [z, hpd.1] at h; cases h)
  · rcases set_get h with ⟨rfl, rfl, _⟩ | ⟨hj, h⟩
    · rcases mem hb with hb | rfl
      · exact ⟨(w.dis _ _ hp b hb).1, there (w.dis _ _ hp b hb).2⟩
      · exact ⟨hF, by rw [upd_ne (Ne.symm npq), upd_same]; simp⟩
    · exact ⟨(w.dis j own h b hb).1, there (w.dis j own h b hb).2⟩
  · rcases set_get h with ⟨e1, e2, _⟩ | ⟨hj, g⟩
    · rcases set_get h' with ⟨e3, e4, _⟩ | ⟨hl, g'⟩
      · exact hjl (e1.trans e3.symm)
      · rw [e2] at hb
        rcases mem hb with hb | hb
        · exact w.sep _ _ _ _ hp g' (fun z => hl z.symm) b hb hb'
        · exact (w.dis _ _ g' b hb').2 (by rw [hb]; exact hq)
    · rcases set_get h' with ⟨e3, e4, _⟩ | ⟨hl, g'⟩
      · rw [e4] at hb'
        rcases mem hb' with hb' | hb'
        · exact w.sep _ _ _ _ g hp hj b hb hb'
        · exact (w.dis _ _ g b hb).2 (by rw [hb']; exact hq)
      · exact w.sep _ _ _ _ g g' hjl b hb hb'
  · rcases set_get h with ⟨rfl, rfl, _⟩ | ⟨hj, h⟩
    · have nd := w.nd _ _ hp
      show ((p :: qs) ++ [q]).Nodup
      rw [List.nodup_append]
      exact ⟨nd, by simp, fun a ha b hb e => by
        rw [List.mem_singleton.mp hb] at e
        exact (w.dis _ _ hp a ha).2 (e ▸ hq)⟩
    · exact w.nd _ _ h
  · rcases set_get h with ⟨rfl, rfl, _⟩ | ⟨hj, h⟩
    · rcases set_get hd with ⟨_, rfl, _⟩ | ⟨hl, _⟩
      · exact hc
      · exact absurd rfl hl
    · rcases set_get hd with ⟨rfl, _, _⟩ | ⟨hl, hd⟩
      · exact absurd rfl hj
      · exact (w.ok j own d h hd).mono (Same.refl F) pre fun b hb u hu => keepB hu (fun z => w.sep _ _ _ _ h hp hj b hb (by rw [z]; simp))
  · by_cases e : b = p
    · subst e; rw [upd_same] at hu; cases hu; exact ho
    · rw [upd_ne e] at hu
      by_cases e2 : b = q
      · subst e2; rw [upd_same] at hu; cases hu; exact trivial
      · rw [upd_ne e2] at hu
        rcases set_get h with ⟨rfl, rfl, _⟩ | ⟨hj, h⟩
        · rcases mem hb with hb | rfl
          · exact w.mu _ _ hp b hb u hu
          · exact absurd rfl e2
        · exact w.mu _ _ h b hb u hu
  · by_cases e : b = p
    · subst e; rw [upd_same] at h; cases h; exact absurd ho n
    · rw [upd_ne e] at h
      by_cases e2 : b = q
      · subst e2; rw [upd_same] at h; cases h; exact absurd trivial n
      · rw [upd_ne e2] at h; exact w.tp b u h n
  · exact keepB h (fun z => n ⟨i, _, hp, by rw [z]; simp⟩)
  · by_cases e : b = p
    · subst e; rw [upd_same] at h; cases h
    · rw [upd_ne e] at h
      by_cases e2 : b = q
      · subst e2; exact hq
      · rw [upd_ne e2] at h; exact h
  · rcases set_get h with ⟨rfl, rfl, _⟩ | ⟨hj, h⟩
    · rcases mem hb with hb | rfl
      · exact .inl ⟨_, _, hp, hb⟩
      · exact .inr hq
    · exact .inl ⟨j, own, h, hb⟩
end
end Y

/-! # Pure states: rows put in, dicts -/
namespace Y
open PySem L2
section
variable {K : PySem.W.Frag} {C : Addr} {F F' H H' : Hp} {as as' : Own} {cs cs' cs1 : List Cell} {E : AEnv} {k : AV → List Cell → Prop} {ta tb te tc td ty : TE} {tas tar : TA} {x y : AV}
theorem getD_snoc {qs : List Addr} {q : Addr} {j : Nat} (h : j < qs.length) : (qs ++ [q]).getD j 0 = qs.getD j 0 := by
  rw [List.getD_eq_getElem?_getD, List.getD_eq_getElem?_getD, List.getElem?_append_left h]
theorem getD_last {qs : List Addr} {q : Addr} : (qs ++ [q]).getD qs.length 0 = q := by
  rw [List.getD_eq_getElem?_getD, List.getElem?_append_right (Nat.le_refl _)]; simp
theorem rowsV_snoc {qs : List Addr} {q : Addr} {ix : List Nat} (h : ∀ j ∈ ix, j < qs.length) : rowsV (qs ++ [q]) (ix ++ [qs.length]) = rowsV qs ix ++ [.ref q] := by
  unfold rowsV
  rw [List.map_append]
  congr 1
  · exact List.map_congr_left fun j hj => by rw [getD_snoc (h j hj)]
  · simp
theorem GridOk.put {p q : Addr} {qs : List Addr} {rs : List (List PyData)} {vs : List V} {r : List PyData} {o : HO} (g : GridOk K F H qs rs) (hp : p ∉ qs) (hq : H q = none) (npq : p ≠ q) (hr : DpAll K F vs r) : GridOk K F (upd (upd H q (.lst vs)) p o) (qs ++ [q]) (rs ++ [r]) :=
  GridOk.snoc (g.mono (Same.refl F) fun b hb u hu => by
    have n1 : b ≠ p := fun z => hp (by rw [← z]; exact hb)
    have n2 : b ≠ q := fun z => by rw [z, hq] at hu; cases hu
    rw [upd_ne n1, upd_ne n2]; exact hu) (by rw [upd_ne (Ne.symm npq), upd_same]) hr
/-- olds.append([..]) -/
theorem ev_appRow (h : Ev K C E cs te fun x cs1 => TyA K C "list" x cs1 ∧ Evs K C E cs1 tas fun xs cs2 => ∃ (i : Nat) (ix : List Nat) (rows : List (List PyData)) (ds : List PyData), x = .cel i ∧ cs2[i]? = some (.g ix rows) ∧ unD xs = some ds ∧ ds.length ≤ 100000 ∧ ix.length < 100000 ∧
    k (.d .none) (cs2.set i (.g (ix ++ [rows.length]) (rows ++ [ds])))) : Ev K C E cs (tBM K "list" rAppend te (tCons (tLst tas) tNil)) k := fun F as H σ Q w e z => by
  refine h F as H σ _ w e fun x cs1 v F1 as1 H1 ⟨ht, h1⟩ s1 w1 r1 => ⟨ht F1 as1 H1 v w1 r1, ?_⟩
  refine h1 F1 as1 H1 σ _ w1 (e.mono s1.f s1.pre) fun xs cs2 vs F2 as2 H2 ⟨i, ix, rows, ds, hx, hc, hd, hl, hl2, hk⟩ s2 w2 r2 => ?_
  subst hx
  have r1' := r1.mono s2.f s2.pre
  cases r1' with | @cel _ p qs hp =>
  obtain ⟨g1, g2, g3⟩ := w2.grid hp hc
  have rd := ARs.toData ((unD_eq hd) ▸ r2)
  refine ⟨line_of (by rw [← r2.length, unD_eq hd, List.length_map]; exact hl), fun q hq => ?_⟩
  have hpd := w2.dis i _ hp p (by simp)
  have npq : p ≠ q := fun z => hpd.2 (z ▸ hq)
  have nd := List.nodup_cons.mp (w2.nd i _ hp)
  have lq := g3.len
  have g2' : ∀ j ∈ ix, j < qs.length := fun j hj => by rw [lq]; exact g2 j hj
  refine ⟨p, rowsV qs ix, .ref q, rfl, rfl, by rw [upd_ne npq]; exact g1, line_lt (by rw [rowsV, List.length_map]; exact hl2), ?_⟩
  obtain ⟨w3, s3⟩ := w2.grow (vs := vs) (o := .lst (rowsV qs ix ++ [.ref q])) (c := .g (ix ++ [rows.length]) (rows ++ [ds])) hp hq trivial
    (.g (by rw [upd_same, ← lq, rowsV_snoc g2']) (fun j hj => by
      rw [List.length_append]
      rcases List.mem_append.mp hj with hj | hj
      · exact Nat.lt_of_lt_of_le (g2 j hj) (Nat.le_add_right _ _)
      · rw [List.mem_singleton.mp hj]; exact Nat.lt_succ_self _) (g3.put nd.1 hq npq rd))
  exact z _ _ _ F2 _ _ hk ((s1.tr s2).tr s3) w3 (.d .non)
/-! ### keys -/
def keyA : AV → Option Key
  | .d (.int i) => some (.inl i)
  | .d (.str s) => some (.inr s)
  | _ => none
theorem keyA_at {κ : Key} {v : V} (h : keyA x = some κ) (r : AR K C F as x v) : v = kV κ := by
  cases x with
  | d d => cases d with
    | int i => simp [keyA] at h; subst h; exact r.int
    | str s => simp [keyA] at h; subst h; exact r.str
    | _ => simp [keyA] at h
  | _ => simp [keyA] at h
def lookG {β : Type} (xs : List (Key × β)) (κ : Key) : Option β := (xs.find? fun kv => decide (kv.1 = κ)).map (·.2)
def putG {β : Type} (xs : List (Key × β)) (κ : Key) (v : β) : List (Key × β) := if (xs.any fun kv => decide (kv.1 = κ)) = true then xs.map (fun kv => if kv.1 = κ then (kv.1, v) else kv) else xs ++ [(κ, v)]
def dropG {β : Type} (xs : List (Key × β)) (κ : Key) : List (Key × β) := xs.filter fun kv => decide (kv.1 ≠ κ)
theorem look_rows {qs : List Addr} {κ : Key} : ∀ {ks : List (Key × Nat)}, valV (rowsK qs ks) κ = (lookG ks κ).map fun j => V.ref (qs.getD j 0)
  | [] => rfl
  | (a, j) :: ks => by
    have ih := look_rows (qs := qs) (κ := κ) (ks := ks)
    unfold valV lookG rowsK at ih ⊢
    rw [List.map_cons, List.find?_cons, List.find?_cons]
    by_cases c : a = κ
    · simp [c]
    · simp only [c, decide_false]; exact ih
theorem look_avs {κ : Key} : ∀ {xs : List (Key × AV)} {kvs : List (Key × V)}, kvs.map Prod.fst = xs.map Prod.fst → ARs K C F as (xs.map Prod.snd) (kvs.map Prod.snd) →
    (lookG xs κ = none → valV kvs κ = none) ∧ ∀ z, lookG xs κ = some z → ∃ v, valV kvs κ = some v ∧ AR K C F as z v
  | [], [], _, _ => ⟨fun _ => rfl, fun z h => by simp [lookG] at h⟩
  | [], _ :: _, h, _ => by simp at h
  | _ :: _, [], h, _ => by simp at h
  | (a, x) :: xs, (b, v) :: kvs, h, r => by
    simp only [List.map_cons, List.cons.injEq] at h
    obtain ⟨h1, h2⟩ := h
    cases r with | cons r1 r2 =>
    obtain ⟨i1, i2⟩ := look_avs (κ := κ) h2 r2
    subst h1
    unfold lookG valV at i1 i2 ⊢
    rw [List.find?_cons, List.find?_cons]
    by_cases c : b = κ
    · simp only [c, decide_true, Option.map_some]
      exact ⟨fun z => by simp at z, fun z hz => ⟨v, rfl, by cases hz; exact r1⟩⟩
    · simp only [c, decide_false]
      exact ⟨i1, i2⟩
theorem lookG_mem {β : Type} {ks : List (Key × β)} {κ : Key} {j : β} (h : lookG ks κ = some j) : (κ, j) ∈ ks := by
  unfold lookG at h
  obtain ⟨a, h1, h2⟩ := Option.map_eq_some_iff.mp h
  have h3 := List.mem_of_find?_eq_some h1
  have h4 := List.find?_some h1
  have h5 : a.1 = κ := of_decide_eq_true h4
  rw [← h5, ← h2]; exact h3
/-- the keys of a dict -/
def keysOf (x : AV) (cs : List Cell) : Option (List Key) := match x with
  | .cel i => match cs[i]? with
    | some (.k _ xs) => some (xs.map Prod.fst)
    | some (.m _ ks _) => some (ks.map Prod.fst)
    | _ => none
  | _ => none
theorem rd_lk {p : Addr} {lk : Option Obj} {u : HO} (h : H p = some (lkO lk u)) : Rd H p u := by
  cases lk with
  | none => exact .inl h
  | some o => exact .inr ⟨o, h⟩
theorem rowsK_fst {qs : List Addr} {ks : List (Key × Nat)} : (rowsK qs ks).map Prod.fst = ks.map Prod.fst := by simp [rowsK]
theorem keysOf_at {ls : List Key} {v : V} (h : keysOf x cs = some ls) (w : Wd K C F as cs H) (r : AR K C F as x v) : ∃ p kvs, v = .ref p ∧ Rd H p (.dK kvs) ∧ kvs.map Prod.fst = ls := by
  cases x with
  | cel i =>
    cases r with | @cel _ p qs hp =>
    simp only [keysOf] at h
    cases e : cs[i]? with
    | none => rw [e] at h; cases h
    | some c =>
      rw [e] at h
      cases c with
      | k lk xs =>
        simp at h
        obtain ⟨_, kvs, _, h1, h2, _⟩ := w.dkt hp e
        exact ⟨p, kvs, rfl, rd_lk h1, h2.trans h⟩
      | m lk ks rows =>
        simp at h
        obtain ⟨h1, _, _⟩ := w.drw hp e
        exact ⟨p, _, rfl, rd_lk h1, rowsK_fst.trans h⟩
      | _ => simp at h
  | _ => simp [keysOf] at h
def hasK (ls : List Key) (κ : Key) : Bool := ls.any fun a => decide (a = κ)
theorem val_mem {kvs : List (Key × V)} {κ : Key} : (valV kvs κ).isSome = hasK (kvs.map Prod.fst) κ := by
  rw [← valV_any, hasK, List.any_map]; rfl
/-- key in d -/
theorem ev_din (h : Ev K C E cs ty fun y cs1 => Ev K C E cs1 td fun x cs2 => ∃ κ ls, keyA y = some κ ∧ keysOf x cs2 = some ls ∧ k (.d (.bool (hasK ls κ))) cs2) : Ev K C E cs (tDIn ty td) k := fun F as H σ Q w e z => by
  refine h F as H σ _ w e fun y cs1 v F1 as1 H1 h1 s1 w1 r1 => ?_
  refine h1 F1 as1 H1 σ _ w1 (e.mono s1.f s1.pre) fun x cs2 u F2 as2 H2 ⟨κ, ls, hy, hx, hk⟩ s2 w2 r2 => ?_
  obtain ⟨p, kvs, rfl, hr, rfl⟩ := keysOf_at hx w2 r2
  obtain rfl := keyA_at hy r1
  refine ⟨p, _, rfl, .inl ⟨kvs, κ, hr, rfl, rfl⟩, ?_⟩
  rw [val_mem]
  exact z _ cs2 _ F2 as2 H2 hk (s1.tr s2) w2 (.d (.bl _))
theorem ev_dnin (h : Ev K C E cs ty fun y cs1 => Ev K C E cs1 td fun x cs2 => ∃ κ ls, keyA y = some κ ∧ keysOf x cs2 = some ls ∧ k (.d (.bool (!hasK ls κ))) cs2) : Ev K C E cs (tDNotIn ty td) k := fun F as H σ Q w e z => by
  refine h F as H σ _ w e fun y cs1 v F1 as1 H1 h1 s1 w1 r1 => ?_
  refine h1 F1 as1 H1 σ _ w1 (e.mono s1.f s1.pre) fun x cs2 u F2 as2 H2 ⟨κ, ls, hy, hx, hk⟩ s2 w2 r2 => ?_
  obtain ⟨p, kvs, rfl, hr, rfl⟩ := keysOf_at hx w2 r2
  obtain rfl := keyA_at hy r1
  refine ⟨p, _, rfl, .inl ⟨kvs, κ, hr, rfl, rfl⟩, ?_⟩
  rw [val_mem]
  exact z _ cs2 _ F2 as2 H2 hk (s1.tr s2) w2 (.d (.bl _))
/-- d[key], the values named -/
theorem ev_dgetK (h : Ev K C E cs td fun x cs1 => Ev K C E cs1 ty fun y cs2 => ∃ i lk xs κ z, x = .cel i ∧ cs2[i]? = some (.k lk xs) ∧ keyA y = some κ ∧ lookG xs κ = some z ∧ k z cs2) : Ev K C E cs (tDGet td ty) k := fun F as H σ Q w e q => by
  refine h F as H σ _ w e fun x cs1 v F1 as1 H1 h1 s1 w1 r1 => ?_
  refine h1 F1 as1 H1 σ _ w1 (e.mono s1.f s1.pre) fun y cs2 u F2 as2 H2 ⟨i, lk, xs, κ, z, hx, hc, hy, hz, hk⟩ s2 w2 r2 => ?_
  subst hx
  have r1' := r1.mono s2.f s2.pre
  cases r1' with | @cel _ p qs hp =>
  obtain ⟨_, kvs, _, g1, g2, g3⟩ := w2.dkt hp hc
  obtain rfl := keyA_at hy r2
  obtain ⟨v, v1, v2⟩ := (look_avs (κ := κ) g2 g3).2 z hz
  exact ⟨p, v, rfl, .inl ⟨kvs, κ, rd_lk g1, rfl, v1.symm⟩, q _ cs2 _ F2 as2 H2 hk (s1.tr s2) w2 v2⟩
/-- d[key], a row -/
theorem ev_dgetM (h : Ev K C E cs td fun x cs1 => Ev K C E cs1 ty fun y cs2 => ∃ i lk ks rows κ j, x = .cel i ∧ cs2[i]? = some (.m lk ks rows) ∧ keyA y = some κ ∧ lookG ks κ = some j ∧ k (.sub i j) cs2) : Ev K C E cs (tDGet td ty) k := fun F as H σ Q w e q => by
  refine h F as H σ _ w e fun x cs1 v F1 as1 H1 h1 s1 w1 r1 => ?_
  refine h1 F1 as1 H1 σ _ w1 (e.mono s1.f s1.pre) fun y cs2 u F2 as2 H2 ⟨i, lk, ks, rows, κ, j, hx, hc, hy, hz, hk⟩ s2 w2 r2 => ?_
  subst hx
  have r1' := r1.mono s2.f s2.pre
  cases r1' with | @cel _ p qs hp =>
  obtain ⟨g1, g2, g3⟩ := w2.drw hp hc
  obtain rfl := keyA_at hy r2
  refine ⟨p, .ref (qs.getD j 0), rfl, .inl ⟨_, κ, rd_lk g1, rfl, by rw [look_rows, hz]; rfl⟩, q _ cs2 _ F2 as2 H2 hk (s1.tr s2) w2 (row_at hp g3 (g2 (κ, j) (lookG_mem hz)))⟩
/-- {} -/
theorem ev_dnewK (h : k (.cel cs.length) (cs ++ [.k none []])) : Ev K C E cs tDNewK k := fun F as H σ Q w e z p hp => Kt.cell (fun a b c _ _ _ g t => z a b c _ _ _ g t) w hp trivial (.k (lk := none) (kvs := []) trivial upd_same rfl .nil) h
theorem ev_dnewM (h : k (.cel cs.length) (cs ++ [.m none [] []])) : Ev K C E cs tDNewK k := fun F as H σ Q w e z p hp => Kt.cell (fun a b c _ _ _ g t => z a b c _ _ _ g t) w hp trivial (.m (qs := []) upd_same (fun x hx => absurd hx List.not_mem_nil) .nil) h
end
end Y

/-! # Pure states: dicts written, locked, walked -/
namespace Y
open PySem L2
section
variable {K : PySem.W.Frag} {C : Addr} {F F' H H' : Hp} {as as' : Own} {cs cs' cs1 : List Cell} {E : AEnv} {k : AV → List Cell → Prop} {ta tb te tc td ty tv : TE} {tas tar : TA} {x y : AV} {n : Nat} {D : AEnds}
theorem any_fst {β : Type} {kvs : List (Key × β)} {κ : Key} : (kvs.any fun kv => decide (kv.1 = κ)) = hasK (kvs.map Prod.fst) κ := by
  rw [hasK, List.any_map]; rfl
theorem put_avs {κ : Key} {v : V} (r : AR K C F as x v) : ∀ {xs : List (Key × AV)} {kvs : List (Key × V)}, kvs.map Prod.fst = xs.map Prod.fst → ARs K C F as (xs.map Prod.snd) (kvs.map Prod.snd) →
    (putK kvs κ v).map Prod.fst = (putG xs κ x).map Prod.fst ∧ ARs K C F as ((putG xs κ x).map Prod.snd) ((putK kvs κ v).map Prod.snd) := by
  intro xs kvs h1 h2
  unfold putK putG
  rw [any_fst, any_fst, h1]
  cases hasK (xs.map Prod.fst) κ with
  | true =>
    rw [if_pos rfl, if_pos rfl]
    induction xs generalizing kvs with
    | nil =>
      cases kvs with
      | nil => exact ⟨rfl, .nil⟩
      | cons a kvs => simp at h1
    | cons a xs ih =>
      cases kvs with
      | nil => simp at h1
      | cons b kvs =>
        simp only [List.map_cons, List.cons.injEq] at h1
        cases h2 with | cons r1 r2 =>
        obtain ⟨i1, i2⟩ := ih h1.2 r2
        simp only [List.map_cons]
        by_cases c : a.1 = κ
        · rw [if_pos c, if_pos (h1.1.trans c)]
          exact ⟨by rw [i1, h1.1], .cons r i2⟩
        · rw [if_neg c, if_neg (by rw [h1.1]; exact c)]
          exact ⟨by rw [i1, h1.1], .cons r1 i2⟩
  | false =>
    rw [if_neg (by decide), if_neg (by decide), List.map_append, List.map_append, List.map_append, List.map_append, h1]
    exact ⟨rfl, h2.append (.cons r .nil)⟩
/-- d[key] = value, the values named -/
theorem ex_dputK (h : Ev K C E cs tv fun z cs1 => Ev K C E cs1 td fun x cs2 => Ev K C E cs2 ty fun y cs3 => ∃ i xs κ, x = .cel i ∧ cs3[i]? = some (.k none xs) ∧ keyA y = some κ ∧ xs.length < 100000 ∧ D.nx E (cs3.set i (.k none (putG xs κ z)))) : Ex K C n E cs (sDPut td ty tv) D := fun F as H σ Dc hn w e d => by
  refine h F as H σ _ w e fun z cs1 v F1 as1 H1 h1 s1 w1 r1 => ?_
  refine h1 F1 as1 H1 σ _ w1 (e.mono s1.f s1.pre) fun x cs2 u F2 as2 H2 h2 s2 w2 r2 => ?_
  have s12 := s1.tr s2
  refine h2 F2 as2 H2 σ _ w2 (e.mono s12.f s12.pre) fun y cs3 t F3 as3 H3 ⟨i, xs, κ, hx, hc, hy, hl, hk⟩ s3 w3 r3 => ?_
  subst hx
  have r2' := r2.mono s3.f s3.pre
  have s23 := s2.tr s3
  have r1' := r1.mono s23.f s23.pre
  cases r2' with | @cel _ p qs hp =>
  obtain ⟨rfl, kvs, _, g1, g2, g3⟩ := w3.dkt hp hc
  obtain rfl := keyA_at hy r3
  obtain ⟨p1, p2⟩ := put_avs (κ := κ) r1' g2 g3
  obtain ⟨w4, s4⟩ := w3.put (c := .k none (putG xs κ z)) (o := .dK (putK kvs κ v)) hp (by simp) trivial (.k (lk := none) trivial upd_same p1 p2)
  refine ⟨p, _, rfl, DPut.k g1 (line_lt (by rw [← List.length_map (f := Prod.fst), g2, List.length_map]; exact hl)), ?_⟩
  have sa := (s12.tr s3).tr s4
  exact d.nx E _ F3 as3 _ σ hk (sa.weak (by rw [w.len]; exact hn)) w4 (e.mono sa.f sa.pre)
theorem rowsK_put {qs : List Addr} {q : Addr} {ks : List (Key × Nat)} {κ : Key} (h : ∀ x ∈ ks, x.2 < qs.length) : rowsK (qs ++ [q]) (putG ks κ qs.length) = putK (rowsK qs ks) κ (.ref q) := by
  unfold putG putK
  rw [any_fst, any_fst, rowsK_fst]
  cases hasK (ks.map Prod.fst) κ with
  | true =>
    rw [if_pos rfl, if_pos rfl, rowsK, rowsK, List.map_map, List.map_map]
    refine List.map_congr_left fun a ha => ?_
    simp only [Function.comp]
    by_cases c : a.1 = κ
    · rw [if_pos c, if_pos c, getD_last]
    · rw [if_neg c, if_neg c, getD_snoc (h a ha)]
  | false =>
    rw [if_neg (by decide), if_neg (by decide), rowsK, List.map_append]
    congr 1
    · exact List.map_congr_left fun a ha => by rw [getD_snoc (h a ha)]
    · simp
/-- an expression that is a key and changes nothing -/
def PureK (K : PySem.W.Frag) (C : Addr) (E : AEnv) (ty : TE) (κ : Key) : Prop := ∀ (F : Hp) (as : Own) (σ : St) (H : Hp) (Q : VK), EnvR K C F as E σ → Q (kV κ) H → ty σ H Q
theorem pureK_var {j : Nat} {y : AV} {κ : Key} (h : E[j]? = some (some y)) (hk : keyA y = some κ) : PureK K C E (tVar j) κ := fun F as σ H Q e q => by
  obtain ⟨v, g, r⟩ := e.get j _ h
  obtain rfl := keyA_at hk r
  exact ⟨_, g, q⟩
theorem pureK_add {j : Nat} {a c : Int} (h : E[j]? = some (some (.d (.int a)))) : PureK K C E (tOp (rI0 fun i j => .int (i + j)) (tVar j) (tC (.int c))) (.inl (a + c)) := fun F as σ H Q e q => by
  obtain ⟨v, g, r⟩ := e.get j _ h
  have hv := r.int
  exact ⟨_, g, a, c, hv, rfl, q⟩
/-- d[key] = [..]: d is a name, the key changes nothing -/
theorem ex_dputRow {i : Nat} (h : Evs K C E cs tas fun xs cs2 => ∃ (a : Nat) (ks : List (Key × Nat)) (rows : List (List PyData)) (ds : List PyData) (κ : Key), E[i]? = some (some (.cel a)) ∧ PureK K C E ty κ ∧ cs2[a]? = some (.m none ks rows) ∧ unD xs = some ds ∧ ds.length ≤ 100000 ∧ ks.length < 100000 ∧
    D.nx E (cs2.set a (.m none (putG ks κ rows.length) (rows ++ [ds])))) : Ex K C n E cs (sDPut (tVar i) ty (tLst tas)) D := fun F as H σ Dc hn w e d => by
  refine h F as H σ _ w e fun xs cs2 vs F2 as2 H2 ⟨a, ks, rows, ds, κ, hi, hpk, hc, hd, hl, hl2, hk⟩ s2 w2 r2 => ?_
  have e2 := e.mono s2.f s2.pre
  obtain ⟨v1, g1, r1⟩ := e2.get i _ hi
  cases r1 with | @cel _ p qs hp =>
  obtain ⟨m1, m2, m3⟩ := w2.drw hp hc
  have rd := ARs.toData ((unD_eq hd) ▸ r2)
  refine ⟨line_of (by rw [← r2.length, unD_eq hd, List.length_map]; exact hl), fun q hq => ⟨_, g1, hpk _ _ _ _ _ e2 ⟨p, upd (upd H2 q (.lst vs)) p (.dK (putK (rowsK qs ks) κ (.ref q))), rfl, ?_⟩⟩⟩
  have hpd := w2.dis a _ hp p (by simp)
  have npq : p ≠ q := fun z => hpd.2 (z ▸ hq)
  have nd := List.nodup_cons.mp (w2.nd a _ hp)
  have lq := m3.len
  have m2' : ∀ x ∈ ks, x.2 < qs.length := fun x hx => by rw [lq]; exact m2 x hx
  have lput : ∀ x ∈ putG ks κ rows.length, x.2 < (rows ++ [ds]).length := fun x hx => by
    rw [List.length_append]
    unfold putG at hx
    split at hx
    · obtain ⟨b, hb, rfl⟩ := List.mem_map.mp hx
      split
      · exact Nat.lt_succ_self _
      · exact Nat.lt_of_lt_of_le (m2 b hb) (Nat.le_add_right _ _)
    · rcases List.mem_append.mp hx with hx | hx
      · exact Nat.lt_of_lt_of_le (m2 x hx) (Nat.le_add_right _ _)
      · rw [List.mem_singleton.mp hx]; exact Nat.lt_succ_self _
  obtain ⟨w3, s3⟩ := w2.grow (vs := vs) (o := .dK (putK (rowsK qs ks) κ (.ref q))) (c := .m none (putG ks κ rows.length) (rows ++ [ds])) hp hq trivial
    (.m (lk := none) (by rw [upd_same, ← lq, rowsK_put m2']; rfl) lput (m3.put nd.1 hq npq rd))
  have mm : H2 p = some (.dK (rowsK qs ks)) := m1
  refine ⟨DPut.k (by rw [upd_ne npq]; exact mm) (line_lt (by rw [rowsK, List.length_map]; exact hl2)), ?_⟩
  have sa := s2.tr s3
  exact d.nx E _ F2 _ _ σ hk (sa.weak (by rw [w.len]; exact hn)) w3 (e.mono sa.f sa.pre)
theorem drop_rows {qs : List Addr} {ks : List (Key × Nat)} {κ : Key} : dropK (rowsK qs ks) κ = rowsK qs (dropG ks κ) := by
  unfold dropK dropG rowsK
  rw [List.filter_map]; rfl
/-- d.pop(key), a row -/
theorem ev_dpopM (h : Ev K C E cs td fun x cs1 => (∃ ls, keysOf x cs1 = some ls) ∧ Ev K C E cs1 ty fun y cs2 => ∃ i ks rows κ j, x = .cel i ∧ cs2[i]? = some (.m none ks rows) ∧ keyA y = some κ ∧ lookG ks κ = some j ∧ k (.sub i j) (cs2.set i (.m none (dropG ks κ) rows))) : Ev K C E cs (tDPop1 td ty) k := fun F as H σ Q w e q => by
  refine h F as H σ _ w e fun x cs1 v F1 as1 H1 ⟨⟨ls, hls⟩, h1⟩ s1 w1 r1 => ?_
  obtain ⟨p0, kv0, rfl, hr0, _⟩ := keysOf_at hls w1 r1
  refine ⟨p0, rfl, .inl ⟨kv0, hr0⟩, ?_⟩
  refine h1 F1 as1 H1 σ _ w1 (e.mono s1.f s1.pre) fun y cs2 u F2 as2 H2 ⟨i, ks, rows, κ, j, hx, hc, hy, hz, hk⟩ s2 w2 r2 => ?_
  subst hx
  have r1' := r1.mono s2.f s2.pre
  cases r1' with | @cel _ p qs hp =>
  obtain ⟨g1, g2, g3⟩ := w2.drw hp hc
  obtain rfl := keyA_at hy r2
  have g1' : H2 p0 = some (.dK (rowsK qs ks)) := g1
  have nd := List.nodup_cons.mp (w2.nd i _ hp)
  obtain ⟨w3, s3⟩ := w2.put (p := p0) (c := .m none (dropG ks κ) rows) (o := .dK (dropK (rowsK qs ks) κ)) hp (by simp) trivial (.m (lk := none) (by rw [upd_same, drop_rows]; rfl) (fun x hx => g2 x ((List.mem_filter.mp hx).1)) (g3.mono (Same.refl F2) fun b hb o ho => by
    have ne : b ≠ p0 := fun z => nd.1 (by rw [← z]; exact hb)
    rw [upd_ne ne]; exact ho))
  exact ⟨_, κ, .ref (qs.getD j 0), g1', rfl, by rw [look_rows, hz]; rfl, q _ _ _ F2 as2 _ hk ((s1.tr s2).tr s3) w3 (row_at hp g3 (g2 (κ, j) (lookG_mem hz)))⟩
/-- a dict locked while a loop over it runs -/
theorem ex_lockK (m : Nat) (hnm : n ≤ m) (i : Nat) (hi : i < m) {xs : List (Key × AV)} (hm : m ≤ cs.length) (hc : cs[i]? = some (.k none xs)) {t : TS}
    (h : ∀ (od : Obj) (kv0 : List (Key × V)), Ex K C m E (cs.set i (.k (some (od, kv0)) xs)) t { nx := fun E' cs' => cs'[i]? = some (.k (some (od, kv0)) xs) ∧ D.nx E' (cs'.set i (.k none xs)), rt := fun x cs' => cs'[i]? = some (.k (some (od, kv0)) xs) ∧ D.rt x (cs'.set i (.k none xs)), bk := fun E' cs' => cs'[i]? = some (.k (some (od, kv0)) xs) ∧ D.bk E' (cs'.set i (.k none xs)), ct := fun E' cs' => cs'[i]? = some (.k (some (od, kv0)) xs) ∧ D.ct E' (cs'.set i (.k none xs)) }) :
    Ex K C n E cs (tLock t) D := fun F as H σ Dc hn w e d => by
  have hia : i < as.length := by rw [w.len]; omega
  obtain ⟨p, qs, hp⟩ : ∃ p qs, as[i]? = some (p :: qs) := by
    have h0 := List.getElem?_eq_getElem hia
    cases h1 : as[i] with
    | nil =>
      rw [h1] at h0
      cases w.ok i _ _ h0 hc
    | cons p qs => exact ⟨p, qs, by rw [h0, h1]⟩
  obtain ⟨rfl, kvs, _, g1, g2, g3⟩ := w.dkt hp hc
  refine ⟨p, .dK kvs, g1, trivial, fun od => ?_⟩
  obtain ⟨w1, s1⟩ := w.put (c := .k (some (od, kvs)) xs) (o := .frz od (.dK kvs)) hp (by simp) trivial (.k (lk := some (od, kvs)) rfl upd_same g2 g3)
  have hma : m ≤ as.length := by rw [w.len]; exact hm
  -- back again
  have back : ∀ {F' : Hp} {as' : Own} {cs' : List Cell} {H' : Hp}, cs'[i]? = some (.k (some (od, kvs)) xs) → Stp m F as (upd H p (.frz od (.dK kvs))) F' as' H' → Wd K C F' as' cs' H' → H' p = some (.frz od (.dK kvs)) ∧ Stp m F as H F' as' (upd H' p (.dK kvs)) ∧ Wd K C F' as' (cs'.set i (.k none xs)) (upd H' p (.dK kvs)) := fun {F' as' cs' H'} hc' s' w' => by
    obtain ⟨r, hr⟩ := s'.a i hi _ hp
    obtain ⟨hr0, kvs', e0, f1, f2, f3⟩ := w'.dkt (p := p) (qs := r) hr hc'
    subst hr0
    have e0 : kvs' = kvs := e0
    subst e0
    obtain ⟨w2, s2⟩ := w'.put (c := .k none xs) (o := .dK kvs') (own := [p]) hr (by simp) trivial (.k (lk := none) trivial upd_same f2 f3)
    have hm' : m ≤ as'.length := s'.len hma
    exact ⟨f1, ((s1.weak hma).trans s').trans (s2.weak hm'), w2⟩
  refine h od kvs F as _ σ _ (by rw [List.length_set]; exact hm) w1 e ⟨fun E' cs' F' as' H' σ' ⟨hc', g⟩ s' w' e' => ?_, fun x cs' F' as' H' v ⟨hc', g⟩ s' w' r' => ?_, fun E' cs' F' as' H' σ' ⟨hc', g⟩ s' w' e' => ?_, fun E' cs' F' as' H' σ' ⟨hc', g⟩ s' w' e' => ?_, fun _ _ _ _ _ _ _ _ _ h => h.elim⟩
  · obtain ⟨b1, b2, b3⟩ := back hc' s' w'
    exact ⟨b1, d.nx E' _ F' as' _ σ' g (b2.weak hnm) b3 e'⟩
  · obtain ⟨b1, b2, b3⟩ := back hc' s' w'
    exact ⟨b1, d.rt x _ F' as' _ v g (b2.weak hnm) b3 r'⟩
  · obtain ⟨b1, b2, b3⟩ := back hc' s' w'
    exact ⟨b1, d.bk E' _ F' as' _ σ' g (b2.weak hnm) b3 e'⟩
  · obtain ⟨b1, b2, b3⟩ := back hc' s' w'
    exact ⟨b1, d.ct E' _ F' as' _ σ' g (b2.weak hnm) b3 e'⟩
theorem ex_lockM (m : Nat) (hnm : n ≤ m) (i : Nat) (hi : i < m) {ks : List (Key × Nat)} {rows : List (List PyData)} (hm : m ≤ cs.length) (hc : cs[i]? = some (.m none ks rows)) {t : TS}
    (h : ∀ (od : Obj), Ex K C m E (cs.set i (.m (some od) ks rows)) t { nx := fun E' cs' => ∃ rows', cs'[i]? = some (.m (some od) ks rows') ∧ D.nx E' (cs'.set i (.m none ks rows')), rt := fun x cs' => ∃ rows', cs'[i]? = some (.m (some od) ks rows') ∧ D.rt x (cs'.set i (.m none ks rows')), bk := fun E' cs' => ∃ rows', cs'[i]? = some (.m (some od) ks rows') ∧ D.bk E' (cs'.set i (.m none ks rows')), ct := fun E' cs' => ∃ rows', cs'[i]? = some (.m (some od) ks rows') ∧ D.ct E' (cs'.set i (.m none ks rows')) }) :
    Ex K C n E cs (tLock t) D := fun F as H σ Dc hn w e d => by
  have hia : i < as.length := by rw [w.len]; omega
  obtain ⟨p, qs, hp⟩ : ∃ p qs, as[i]? = some (p :: qs) := by
    have h0 := List.getElem?_eq_getElem hia
    cases h1 : as[i] with
    | nil =>
      rw [h1] at h0
      cases w.ok i _ _ h0 hc
    | cons p qs => exact ⟨p, qs, by rw [h0, h1]⟩
  obtain ⟨g1, g2, g3⟩ := w.drw hp hc
  have nd := List.nodup_cons.mp (w.nd i _ hp)
  have lq := g3.len
  refine ⟨p, .dK (rowsK qs ks), g1, trivial, fun od => ?_⟩
  obtain ⟨w1, s1⟩ := w.put (p := p) (c := .m (some od) ks rows) (o := .frz od (.dK (rowsK qs ks))) hp (by simp) trivial (.m (lk := some od) upd_same g2 (g3.mono (Same.refl F) fun b hb o ho => by
    have ne : b ≠ p := fun z => nd.1 (by rw [← z]; exact hb)
    rw [upd_ne ne]; exact ho))
  have hma : m ≤ as.length := by rw [w.len]; exact hm
  have back : ∀ {F' : Hp} {as' : Own} {cs' : List Cell} {H' : Hp} {rows' : List (List PyData)}, cs'[i]? = some (.m (some od) ks rows') → Stp m F as (upd H p (.frz od (.dK (rowsK qs ks)))) F' as' H' → Wd K C F' as' cs' H' → H' p = some (.frz od (.dK (rowsK qs ks))) ∧ Stp m F as H F' as' (upd H' p (.dK (rowsK qs ks))) ∧ Wd K C F' as' (cs'.set i (.m none ks rows')) (upd H' p (.dK (rowsK qs ks))) := fun {F' as' cs' H' rows'} hc' s' w' => by
    obtain ⟨r, hr⟩ := s'.a i hi _ hp
    obtain ⟨f1, f2, f3⟩ := w'.drw (p := p) (qs := qs ++ r) hr hc'
    have er : rowsK (qs ++ r) ks = rowsK qs ks := List.map_congr_left fun x hx => by
      have : x.2 < qs.length := by rw [lq]; exact g2 x hx
      rw [List.getD_eq_getElem?_getD, List.getD_eq_getElem?_getD, List.getElem?_append_left this]
    rw [er] at f1
    have nd' := List.nodup_cons.mp (show (p :: (qs ++ r)).Nodup from w'.nd i _ hr)
    obtain ⟨w2, s2⟩ := w'.put (p := p) (c := .m none ks rows') (o := .dK (rowsK qs ks)) (own := p :: (qs ++ r)) hr (by simp) trivial (.m (lk := none) (by rw [upd_same, er]; rfl) f2 (f3.mono (Same.refl F') fun b hb o ho => by
      have ne : b ≠ p := fun z => nd'.1 (by rw [← z]; exact hb)
      rw [upd_ne ne]; exact ho))
    have hm' : m ≤ as'.length := s'.len hma
    exact ⟨f1, ((s1.weak hma).trans s').trans (s2.weak hm'), w2⟩
  refine h od F as _ σ _ (by rw [List.length_set]; exact hm) w1 e ⟨fun E' cs' F' as' H' σ' ⟨rs, hc', g⟩ s' w' e' => ?_, fun x cs' F' as' H' v ⟨rs, hc', g⟩ s' w' r' => ?_, fun E' cs' F' as' H' σ' ⟨rs, hc', g⟩ s' w' e' => ?_, fun E' cs' F' as' H' σ' ⟨rs, hc', g⟩ s' w' e' => ?_, fun _ _ _ _ _ _ _ _ _ h => h.elim⟩
  · obtain ⟨b1, b2, b3⟩ := back hc' s' w'
    exact ⟨b1, d.nx E' _ F' as' _ σ' g (b2.weak hnm) b3 e'⟩
  · obtain ⟨b1, b2, b3⟩ := back hc' s' w'
    exact ⟨b1, d.rt x _ F' as' _ v g (b2.weak hnm) b3 r'⟩
  · obtain ⟨b1, b2, b3⟩ := back hc' s' w'
    exact ⟨b1, d.bk E' _ F' as' _ σ' g (b2.weak hnm) b3 e'⟩
  · obtain ⟨b1, b2, b3⟩ := back hc' s' w'
    exact ⟨b1, d.ct E' _ F' as' _ σ' g (b2.weak hnm) b3 e'⟩
/-! ### the keys of a locked dict -/
def keyD : Key → PyData
  | .inl i => .int i
  | .inr s => .str s
theorem keyD_dp {κ : Key} : Dp K F (kV κ) (keyD κ) := by
  cases κ with
  | inl i => exact .int i
  | inr s => exact .str s
theorem keyA_D {κ : Key} : keyA (.d (keyD κ)) = some κ := by cases κ <;> rfl
theorem ei_keysM {ki : List AV → (List Cell → Prop) → List Cell → Prop} {m : Nat} (j : Nat) (hj : j < m) (h : Ev K C E cs td fun x cs1 => x = .cel j ∧ ∃ od ks rows, cs1[j]? = some (.m (some od) ks rows) ∧ ki (ks.map fun z => .d (keyD z.1)) (fun cs2 => ∃ rows', cs2[j]? = some (.m (some od) ks rows')) cs1) : Evi K C m E cs (iKeys td) ki := fun F as H σ R w e q => by
  refine h F as H σ _ w e fun x cs1 v F1 as1 H1 ⟨hx, od, ks, rows, hc, h1⟩ s1 w1 r1 => ?_
  subst hx
  cases r1 with | @cel _ p qs hp =>
  obtain ⟨g1, g2, g3⟩ := w1.drw hp hc
  have lq := g3.len
  have g1' : H1 p = some (.frz od (.dK (rowsK qs ks))) := g1
  have again : ∀ {F2 : Hp} {as2 : Own} {cs2 : List Cell} {H2 : Hp} {rows' : List (List PyData)}, cs2[j]? = some (.m (some od) ks rows') → Stp m F1 as1 H1 F2 as2 H2 → Wd K C F2 as2 cs2 H2 → H2 p = some (.frz od (.dK (rowsK qs ks))) := fun {F2 as2 cs2 H2 rows'} hc' s' w' => by
    obtain ⟨r, hr⟩ := s'.a j hj _ hp
    obtain ⟨f1, f2, f3⟩ := w'.drw (p := p) (qs := qs ++ r) hr hc'
    have er : rowsK (qs ++ r) ks = rowsK qs ks := List.map_congr_left fun x hx => by
      have : x.2 < qs.length := by rw [lq]; exact g2 x hx
      rw [List.getD_eq_getElem?_getD, List.getD_eq_getElem?_getD, List.getElem?_append_left this]
    rw [er] at f1
    exact f1
  refine ⟨p, od, rfl, .inl ⟨_, g1', q _ _ cs1 F1 as1 H1 _ h1 s1 w1 ⟨fun t y F2 as2 cs2 H2 ht ⟨rs, hok⟩ s2 w2 => ?_, fun F2 as2 cs2 H2 ⟨rs, hok⟩ s2 w2 => ?_⟩⟩⟩
  · have hH := again hok s2 w2
    rw [List.getElem?_map] at ht
    obtain ⟨z, hz, rfl⟩ := Option.map_eq_some_iff.mp ht
    have hz2 : (rowsK qs ks)[t]? = some (z.1, V.ref (qs.getD z.2 0)) := by rw [rowsK, List.getElem?_map, hz]; rfl
    refine ⟨⟨hH, (List.getElem?_eq_some_iff.mp hz2).1⟩, fun x H' ⟨e1, κ, v, e2, e3⟩ => ⟨F2, by rw [e1]; exact Stp.refl, by rw [e1]; exact w2, ?_⟩⟩
    rw [hz2] at e2; cases e2
    rw [e3]; exact .d keyD_dp
  · exact ⟨again hok s2 w2, by rw [rowsK, List.length_map, List.length_map]; exact Nat.le_refl _⟩
theorem ei_keysK {ki : List AV → (List Cell → Prop) → List Cell → Prop} {m : Nat} (j : Nat) (hj : j < m) (h : Ev K C E cs td fun x cs1 => x = .cel j ∧ ∃ od kv0 xs, cs1[j]? = some (.k (some (od, kv0)) xs) ∧ ki (xs.map fun z => .d (keyD z.1)) (fun cs2 => cs2[j]? = some (.k (some (od, kv0)) xs)) cs1) : Evi K C m E cs (iKeys td) ki := fun F as H σ R w e q => by
  refine h F as H σ _ w e fun x cs1 v F1 as1 H1 ⟨hx, od, kv0, xs, hc, h1⟩ s1 w1 r1 => ?_
  subst hx
  cases r1 with | @cel _ p qs hp =>
  obtain ⟨rfl, kvs, e0, g1, g2, g3⟩ := w1.dkt hp hc
  have e0 : kvs = kv0 := e0
  subst e0
  have g1' : H1 p = some (.frz od (.dK kvs)) := g1
  have again : ∀ {F2 : Hp} {as2 : Own} {cs2 : List Cell} {H2 : Hp}, cs2[j]? = some (.k (some (od, kvs)) xs) → Stp m F1 as1 H1 F2 as2 H2 → Wd K C F2 as2 cs2 H2 → H2 p = some (.frz od (.dK kvs)) := fun {F2 as2 cs2 H2} hc' s' w' => by
    obtain ⟨r, hr⟩ := s'.a j hj _ hp
    obtain ⟨hr0, kvs', e0, f1, f2, f3⟩ := w'.dkt (p := p) (qs := r) hr hc'
    have e0 : kvs' = kvs := e0
    rw [e0] at f1
    exact f1
  have hlen : kvs.length = xs.length := by rw [← List.length_map (f := Prod.fst), g2, List.length_map]
  refine ⟨p, od, rfl, .inl ⟨_, g1', q _ _ cs1 F1 as1 H1 _ h1 s1 w1 ⟨fun t y F2 as2 cs2 H2 ht hok s2 w2 => ?_, fun F2 as2 cs2 H2 hok s2 w2 => ?_⟩⟩⟩
  · have hH := again hok s2 w2
    rw [List.getElem?_map] at ht
    obtain ⟨z, hz, rfl⟩ := Option.map_eq_some_iff.mp ht
    have h1 : (kvs.map Prod.fst)[t]? = some z.1 := by rw [g2, List.getElem?_map, hz]; rfl
    refine ⟨⟨hH, by rw [hlen]; exact (List.getElem?_eq_some_iff.mp hz).1⟩, fun x H' ⟨e1, κ, v, e2, e3⟩ => ⟨F2, by rw [e1]; exact Stp.refl, by rw [e1]; exact w2, ?_⟩⟩
    rw [List.getElem?_map, e2] at h1
    cases h1
    rw [e3]; exact .d keyD_dp
  · exact ⟨again hok s2 w2, by rw [List.length_map, hlen]; exact Nat.le_refl _⟩
end
end Y

/-! # d.get(k, x) with k None; list(d) -/
namespace L2
open PySem PySem.Spec PyProof.Rows PySem.W PySem.Calls
section
variable {X : Cx} {pins : List (Addr × Obj)} {σ : St} {H : Hp} {s : Shared} {a : Addr} {kvs : List (Key × V)} {A : Around} {E : Value → Shared → Prop} {d : V} {r : Value}
theorem d_get2None {Q : Value → Shared → Prop} (I : Inv X pins σ H s) (e : Rd H a (.dK kvs)) (rd : RelV d r) (h : ∀ w' s', Inv X pins σ H s' → RelV d w' → Q w' s') : wpAny (model X.prog X.w) A (call (.builtin "dict.get") [.ref a, .none, r]) Q E s := by
  obtain ⟨z, hd, vs, rel, dd⟩ := dk_rd I.hok e
  obtain ⟨f, hm, hf⟩ := none_map dd
  refine call_meetsIn PySem.F.slot_dict_get dd.typeIs PySem.F.entry_dict_get (PySem.F.args_dict_get_3 _ _ _) (meets_dict_get_default (noneKind X.prog X.w) a (show (noneKind X.prog X.w).is none .none = true from rfl) hd r) ⟨_, hm, h _ _ (I.tok _) ?_⟩
  rw [hf]
  exact rd
end
def tDGet2N (td ty tx : TE) : TE := fun σ H Q => td σ H fun x H1 => ∃ a, x = .ref a ∧ IsD H1 a ∧ ty σ H1 fun y H2 => tx σ H2 fun z H3 => (∃ o, DGet H3 a y o ∧ Q (o.getD z) H3) ∨ ∃ kvs, y = .non ∧ Rd H3 a (.dK kvs) ∧ Q z H3
section
variable {X : Cx} {o e f : Expr} {apos cpos : Pos} {td ty tx : TE}
theorem pe_dget2N (hu : X.A.units + 1 < cLine) (ho : PE X o td) (he : PE X e ty) (hf : PE X f tx) (m : M2 X o "get" apos e f cpos) : PE X (.Call (.Attribute o "get" apos) [e, f] [] cpos) (tDGet2N td ty tx) := by
  refine ⟨fun pins s σ H Q I h => ?_⟩
  refine wpAny_Call_method m.base m.few m.line PySem.F.plainAttrs_dict PySem.F.slot_dict_get PySem.F.type_dict_get (thn (ho.run pins s σ H _ I h) fun u s1 ⟨x, H1, I1, rx, a, ex, d, q1⟩ => ?_)
  subst ex
  obtain rfl : u = Value.ref a := rx
  obtain ⟨t1, t2, _⟩ := isD_at I1 d
  refine ⟨t1, t2, ?_⟩
  rw [m.trees]
  refine Calls.callWith_builtin rfl (Calls.evalArgs_plain (Calls.spliced_cons (thn (he.run pins s1 σ H1 _ I1 q1) fun iv s2 ⟨y, H2, I2, ry, q2⟩ =>
    Calls.spliced_cons (thn (hf.run pins s2 σ H2 _ I2 q2) fun fv s3 ⟨z, H3, I3, rz, q3⟩ => Calls.spliced_nil ?_))))
  rcases q3 with ⟨ov, g, q3⟩ | ⟨kvs, ey, g, q3⟩
  · exact d_get2 hu I3 g ry rz fun w' s4 I4 rw' => ⟨_, H3, I4, rw', q3⟩
  · subst ey
    obtain rfl : iv = Value.none := ry
    exact d_get2None I3 g rz fun w' s4 I4 rw' => ⟨_, H3, I4, rw', q3⟩
end
end L2
namespace Y
open PySem L2
def rListDK : List V → Hp → VK → Prop := fun xs H Q => ∃ (a : Addr) (kvs : List (Key × V)), xs = [.ref a] ∧ Rd H a (.dK kvs) ∧ ∀ p, H p = none → Q (.ref p) (upd H p (.lst (kvs.map fun kv => kV kv.1)))
theorem call_listDK {X : Cx} (hc : X.calm = true) : CallR X (.type "list") rListDK := call_listD hc
section
variable {K : PySem.W.Frag} {C : Addr} {F F' H H' : Hp} {as as' : Own} {cs cs' cs1 : List Cell} {E : AEnv} {k : AV → List Cell → Prop} {td ty tx : TE} {x y : AV}
/-- d.get(key, other), the values named; the key may be None -/
theorem ev_dget2K (h : Ev K C E cs td fun x cs1 => (∃ ls, keysOf x cs1 = some ls) ∧ Ev K C E cs1 ty fun y cs2 => Ev K C E cs2 tx fun z cs3 => ∃ i lk xs, x = .cel i ∧ cs3[i]? = some (.k lk xs) ∧ ((∃ κ, keyA y = some κ ∧ k ((lookG xs κ).getD z) cs3) ∨ y = .d .none ∧ k z cs3)) : Ev K C E cs (tDGet2N td ty tx) k := fun F as H σ Q w e q => by
  refine h F as H σ _ w e fun x cs1 v F1 as1 H1 ⟨⟨ls, hls⟩, h1⟩ s1 w1 r1 => ?_
  obtain ⟨p0, kv0, rfl, hr0, _⟩ := keysOf_at hls w1 r1
  refine ⟨p0, rfl, .inl ⟨kv0, hr0⟩, ?_⟩
  refine h1 F1 as1 H1 σ _ w1 (e.mono s1.f s1.pre) fun y cs2 u F2 as2 H2 h2 s2 w2 r2 => ?_
  have s12 := s1.tr s2
  refine h2 F2 as2 H2 σ _ w2 (e.mono s12.f s12.pre) fun z cs3 t F3 as3 H3 ⟨i, lk, xs, hx, hc, hk⟩ s3 w3 r3 => ?_
  subst hx
  have s23 := s2.tr s3
  have r1' := r1.mono s23.f s23.pre
  have r2' := r2.mono s3.f s3.pre
  cases r1' with | @cel _ p qs hp =>
  obtain ⟨_, kvs, _, g1, g2, g3⟩ := w3.dkt hp hc
  rcases hk with ⟨κ, hy, hk⟩ | ⟨hy, hk⟩
  · obtain rfl := keyA_at hy r2'
    obtain ⟨l1, l2⟩ := look_avs (κ := κ) g2 g3
    refine .inl ⟨valV kvs κ, .inl ⟨kvs, κ, rd_lk g1, rfl, rfl⟩, ?_⟩
    cases e1 : lookG xs κ with
    | none =>
      rw [e1] at hk
      rw [l1 e1]
      exact q _ cs3 _ F3 as3 H3 hk (s12.tr s3) w3 r3
    | some a =>
      rw [e1] at hk
      obtain ⟨v', v1, v2⟩ := l2 a e1
      rw [v1]
      exact q _ cs3 _ F3 as3 H3 hk (s12.tr s3) w3 v2
  · subst hy
    cases r2' with | d r2' =>
    exact .inr ⟨kvs, r2'.non_inv, rd_lk g1, q _ cs3 _ F3 as3 H3 hk (s12.tr s3) w3 r3⟩
/-- list(d) -/
theorem on_listM {i : Nat} {ks : List (Key × Nat)} {rows : List (List PyData)} (h1 : cs[i]? = some (.m none ks rows)) (h : k (.cel cs.length) (cs ++ [.l (ks.map fun z => keyD z.1)])) : On K C rListDK [.cel i] cs k := fun F as H vs Q w r q => by
  cases r with | cons r1 r2 =>
  cases r2
  cases r1 with | @cel _ p qs hp =>
  obtain ⟨g1, g2, g3⟩ := w.drw hp h1
  have g1' : H p = some (.dK (rowsK qs ks)) := g1
  refine ⟨p, _, rfl, .inl g1', fun l hl => ?_⟩
  have hd : ∀ ks : List (Key × Nat), DpAll K F ((rowsK qs ks).map fun kv => kV kv.1) (ks.map fun z => keyD z.1) := fun ks => by
    induction ks with
    | nil => exact .nil
    | cons a ks ih => exact .cons keyD_dp ih
  exact Kt.cell q w hl trivial (.l upd_same (hd ks)) h
/-- a dict literal of constants -/
theorem pairs_c : ∀ (ps : List (Str × Int)) (σ : St) (H : Hp) (Q : List (V × V) → Hp → Prop), Q (ps.map fun z => (V.str z.1, V.int z.2)) H → tPairs (ps.map fun z => (tC (.str z.1), tC (.int z.2))) σ H Q
  | [], _, _, _, h => h
  | a :: ps, σ, H, Q, h => pairs_c ps σ H _ h
theorem ev_disp {trs : List (TE × TE)} (ps : List (Str × Int)) (ht : trs = ps.map fun z => (tC (.str z.1), tC (.int z.2))) (hl : ps.length ≤ 15) (hm : mergeK [] (ps.map fun z => (Sum.inr z.1, V.int z.2)) = ps.map fun z => ((Sum.inr z.1 : Key), V.int z.2)) (h : k (.cel cs.length) (cs ++ [.k none (ps.map fun z => (Sum.inr z.1, .d (.int z.2)))])) : Ev K C E cs (tDisp trs) k := fun F as H σ Q w e q p hp => by
  subst ht
  refine pairs_c ps σ _ _ ⟨upd_same, ps.map fun z => (Sum.inr z.1, V.int z.2), by rw [List.map_map]; rfl, by rw [List.length_map]; exact hl, ?_⟩
  rw [hm]
  have e2 : upd (upd H p (.dK [])) p (.dK (ps.map fun z => ((Sum.inr z.1 : Key), V.int z.2))) = upd H p (.dK (ps.map fun z => ((Sum.inr z.1 : Key), V.int z.2))) := by
    funext b
    by_cases c : b = p
    · subst c; rw [upd_same, upd_same]
    · rw [upd_ne c, upd_ne c, upd_ne c]
  rw [e2]
  have ha : ∀ ps : List (Str × Int), ARs K C F (as ++ [[p]]) ((ps.map fun z => ((Sum.inr z.1 : Key), AV.d (.int z.2))).map Prod.snd) ((ps.map fun z => ((Sum.inr z.1 : Key), V.int z.2)).map Prod.snd) := fun ps => by
    induction ps with
    | nil => exact .nil
    | cons a ps ih => exact .cons (.d (.int _)) ih
  exact Kt.cell (fun a b c _ _ _ g t => q a b c _ _ _ g t) w hp trivial (.k (lk := none) trivial upd_same (by simp) (ha ps)) h
end
end Y

/-! # Pure states: errors -/
namespace Y
open PySem L2
def XP.ren (ρ : Nat → Nat) : XP → XP
  | .fld f x => .fld f (x.ren ρ)
  | .no => .no
abbrev KX := Addr → XP → List Cell → Prop
abbrev EX := Addr → XP → AEnv → List Cell → Prop
abbrev ASpX := List AV → List Cell → (AV → List Cell → Prop) → KX → Prop
section
variable {K : PySem.W.Frag} {C : Addr} {F F' H H' : Hp} {as as' : Own} {cs cs' cs1 : List Cell} {E : AEnv} {k : AV → List Cell → Prop} {x y : AV} {te ta tb : TE} {tas tar : TA} {n : Nat} {D : AEnds} {W : WX} {ex : EX}
def spAX (K : PySem.W.Frag) (C : Addr) (A : ASpX) : Sp := fun vs H Q E => ∃ F as cs xs k kx, Wd K C F as cs H ∧ ARs K C F as xs vs ∧ A xs cs k kx ∧
  (∀ r cs' v F' as' H', k r cs' → Stp as.length F as H F' as' H' → Wd K C F' as' cs' H' → AR K C F' as' r v → Q v H') ∧
  ∀ c p cs' d F' as' H', kx c p cs' → Stp as.length F as H F' as' H' → Wd K C F' as' cs' H' → XR K C F' as' p d → E (.ref c) d H'
theorem spAX_len {A : ASpX} {l : Nat} (h : ∀ xs cs k kx, A xs cs k kx → xs.length = l) {vs : List V} {H : Hp} {Q : VK} {X : XK} (g : spAX K C A vs H Q X) : vs.length = l := by
  obtain ⟨F, as, cs, xs, k, kx, _, r, hA, _⟩ := g
  rw [← r.length]; exact h _ _ _ _ hA
/-! ### expressions that may raise -/
def EvX (K : PySem.W.Frag) (C : Addr) (W : WX) (ex : EX) (E : AEnv) (cs : List Cell) (te : TE) (k : AV → List Cell → Prop) : Prop :=
  ∀ (F : Hp) (as : Own) (H : Hp) (σ : St) (Q : VK), Wd K C F as cs H → EnvR K C F as E σ →
    (∀ x cs' v F' as' H', k x cs' → Stp as.length F as H F' as' H' → Wd K C F' as' cs' H' → AR K C F' as' x v → Q v H') →
    (∀ c p cs' F' as' H' d, ex c p E cs' → Stp as.length F as H F' as' H' → Wd K C F' as' cs' H' → XR K C F' as' p d → W (.ref c) d σ H') → te σ H Q
def EvsX (K : PySem.W.Frag) (C : Addr) (W : WX) (ex : EX) (E : AEnv) (cs : List Cell) (ta : TA) (k : List AV → List Cell → Prop) : Prop :=
  ∀ (F : Hp) (as : Own) (H : Hp) (σ : St) (Q : List V → Hp → Prop), Wd K C F as cs H → EnvR K C F as E σ →
    (∀ x cs' v F' as' H', k x cs' → Stp as.length F as H F' as' H' → Wd K C F' as' cs' H' → ARs K C F' as' x v → Q v H') →
    (∀ c p cs' F' as' H' d, ex c p E cs' → Stp as.length F as H F' as' H' → Wd K C F' as' cs' H' → XR K C F' as' p d → W (.ref c) d σ H') → ta σ H Q
theorem evx_of (h : Ev K C E cs te k) : EvX K C W ex E cs te k := fun F as H σ Q w e z _ => h F as H σ Q w e z
theorem evsx_of {ks : List AV → List Cell → Prop} (h : Evs K C E cs tas ks) : EvsX K C W ex E cs tas ks := fun F as H σ Q w e z _ => h F as H σ Q w e z
theorem evsx_cons {ks : List AV → List Cell → Prop} (h : EvX K C W ex E cs ta fun x cs1 => EvsX K C W ex E cs1 tar fun xs cs2 => ks (x :: xs) cs2) : EvsX K C W ex E cs (tCons ta tar) ks := fun F as H σ Q w e z zx => by
  refine h F as H σ _ w e (fun x cs1 v F1 as1 H1 h1 s1 w1 r1 => ?_) zx
  refine h1 F1 as1 H1 σ _ w1 (e.mono s1.f s1.pre) (fun y cs2 u F2 as2 H2 h2 s2 w2 r2 => ?_) fun c p cs' F' as' H' d h s => zx c p cs' F' as' H' d h (s1.tr s)
  exact z _ cs2 _ F2 as2 H2 h2 (s1.tr s2) w2 (.cons (r1.mono s2.f s2.pre) r2)
theorem evx_tup (h : EvsX K C W ex E cs tas fun xs cs1 => xs.length ≤ 100000 ∧ k (.tup xs) cs1) : EvX K C W ex E cs (tTup tas) k := fun F as H σ Q w e z zx => by
  refine h F as H σ _ w e (fun xs cs1 vs F1 as1 H1 ⟨hl, h1⟩ s1 w1 r1 => ?_) zx
  refine ⟨line_of (by rw [← r1.length]; exact hl), fun p hp => ?_⟩
  have hF : F1 p = none := w1.fro.free hp
  exact Kt.frz (Kt.later z s1) w1 hp h1 (.tup (SqT.of upd_same) (r1.mono (Same.new hF) Pre.refl))
theorem evx_tupD (h : EvsX K C W ex E cs tas fun xs cs1 => IsDs xs fun ds => k (.d (.tuple ds)) cs1) : EvX K C W ex E cs (tTup tas) k := fun F as H σ Q w e z zx => by
  refine h F as H σ _ w e (fun xs cs1 vs F1 as1 H1 ⟨ds, h0, hl, h1⟩ s1 w1 r1 => ?_) zx
  have r2 := ARs.toData ((unD_eq h0) ▸ r1)
  refine ⟨line_of (by rw [← r1.length, unD_eq h0, List.length_map]; exact hl), fun p hp => ?_⟩
  have hF : F1 p = none := w1.fro.free hp
  exact Kt.frz (Kt.later z s1) w1 hp h1 (.d (.tupOf upd_same ((Same.new hF).dpAll r2)))
theorem evx_op {r : R2} (h : EvX K C W ex E cs ta fun x cs1 => EvX K C W ex E cs1 tb fun y cs2 => O2 K C r x y cs2 k) : EvX K C W ex E cs (tOp r ta tb) k := fun F as H σ Q w e z zx => by
  refine h F as H σ _ w e (fun x cs1 v F1 as1 H1 h1 s1 w1 r1 => ?_) zx
  refine h1 F1 as1 H1 σ _ w1 (e.mono s1.f s1.pre) (fun y cs2 u F2 as2 H2 h2 s2 w2 r2 => ?_) fun c p cs' F' as' H' d h s => zx c p cs' F' as' H' d h (s1.tr s)
  exact h2 F2 as2 H2 v u Q w2 (r1.mono s2.f s2.pre) r2 fun a b c _ _ _ g t => z a b c _ _ _ g ((s1.tr s2).tr t)
theorem ex_toX {g : TG} (h : EvX K C D.W D.ex E cs te fun x cs1 => Eg K C n E x cs1 g D.nx) : Ex K C n E cs (tAsg te g) D := fun F as H σ Dc hn w e d => by
  have hn' : n ≤ as.length := by rw [w.len]; exact hn
  refine h F as H σ _ w e (fun x cs1 v F1 as1 H1 h1 s1 w1 r1 => ?_) fun c p cs' F' as' H' dd h s w' r => d.ex c p E cs' F' as' H' σ dd h (s.weak hn') w' (e.mono s.f s.pre) r
  have s1' := s1.weak hn'
  exact h1 F1 as1 H1 σ v _ (by rw [← w1.len]; exact s1'.len hn') w1 (e.mono s1.f s1.pre) r1 fun E' cs' F' as' H' σ' g t w' e' => d.nx E' cs' F' as' H' σ' g (s1'.trans t) w' e'
theorem ex_dropX (h : EvX K C D.W D.ex E cs te fun _ cs1 => D.nx E cs1) : Ex K C n E cs (tDrop te) D := fun F as H σ Dc hn w e d => by
  have hn' : n ≤ as.length := by rw [w.len]; exact hn
  exact h F as H σ _ w e (fun x cs1 v F1 as1 H1 h1 s1 w1 r1 => d.nx E cs1 F1 as1 H1 σ h1 (s1.weak hn') w1 (e.mono s1.f s1.pre)) fun c p cs' F' as' H' dd h s w' r => d.ex c p E cs' F' as' H' σ dd h (s.weak hn') w' (e.mono s.f s.pre) r
theorem ex_retX (h : EvX K C D.W D.ex E cs te D.rt) : Ex K C n E cs (tRet te) D := fun F as H σ Dc hn w e d => by
  have hn' : n ≤ as.length := by rw [w.len]; exact hn
  exact h F as H σ _ w e (fun x cs1 v F1 as1 H1 h1 s1 w1 r1 => d.rt x cs1 F1 as1 H1 v h1 (s1.weak hn') w1 r1) fun c p cs' F' as' H' dd h s w' r => d.ex c p E cs' F' as' H' σ dd h (s.weak hn') w' (e.mono s.f s.pre) r
/-! ### calls -/
theorem XR.ren {asN : Own} {ρ : Nat → Nat} {p : XP} {d : Option Addr} (a : ∀ (y : AV) (v : V), AR K C F as y v → AR K C F asN (y.ren ρ) v) (h : XR K C F as p d) : XR K C F asN (p.ren ρ) d := by
  cases p with
  | no => exact h
  | fld f x =>
    obtain ⟨q, v, h1, h2, h3⟩ := h
    exact ⟨q, v, h1, h2, a _ _ h3⟩
theorem call_coreX {A : ASpX} {is : List Nat} {zs xs : List AV} {cz : List Cell} {vs : List V} {Q : VK} {X : XK} {kx : KX} (ok : CallOk is zs cz xs cs) (w : Wd K C F as cs H) (r : ARs K C F as xs vs)
    (hA : A zs cz (fun y cz' => k (y.ren (rho is cs.length)) (putC cs is (cz'.map (Cell.ren (rho is cs.length))))) fun c p cz' => kx c (p.ren (rho is cs.length)) (putC cs is (cz'.map (Cell.ren (rho is cs.length)))))
    (q : Kt K C F as H k Q) (qx : ∀ c p cs' F' as' H' d, kx c p cs' → Stp as.length F as H F' as' H' → Wd K C F' as' cs' H' → XR K C F' as' p d → X (.ref c) d H') : spAX K C A vs H Q X := by
  obtain ⟨sel, hwd, hr, back⟩ := call_back ok w r
  refine ⟨F, sel, cz, zs, _, _, hwd, hr, hA, fun y cz' v F' as' H' hk s w' r' => ?_, fun c p cz' d F' as' H' hk s w' r' => ?_⟩
  · obtain ⟨asN, s1, w1, a1⟩ := back F' as' H' cz' s w'
    exact q _ _ v F' asN H' hk s1 w1 (a1 y v r')
  · obtain ⟨asN, s1, w1, a1⟩ := back F' as' H' cz' s w'
    exact qx _ _ _ F' asN H' d hk s1 w1 (r'.ren a1)
def Calls (A : ASpX) (xs : List AV) (cs : List Cell) (k : AV → List Cell → Prop) (kx : KX) : Prop := ∃ is zs cz, CallOk is zs cz xs cs ∧
  A zs cz (fun y cz' => k (y.ren (rho is cs.length)) (putC cs is (cz'.map (Cell.ren (rho is cs.length))))) fun c p cz' => kx c (p.ren (rho is cs.length)) (putC cs is (cz'.map (Cell.ren (rho is cs.length))))
/-- with data alone -/
theorem calls_data {A : ASpX} {xs : List AV} {kx : KX} {ds : List PyData} (h : unD xs = some ds) (hA : A (ds.map AV.d) [] (fun y cz' => k (y.ren (rho [] cs.length)) (putC cs [] (cz'.map (Cell.ren (rho [] cs.length))))) fun c p cz' => kx c (p.ren (rho [] cs.length)) (putC cs [] (cz'.map (Cell.ren (rho [] cs.length))))) : Calls A xs cs k kx :=
  ⟨[], ds.map AV.d, [], ⟨List.nodup_nil, fun i hi => absurd hi (List.not_mem_nil), by
    rw [unD_eq h, renAll_map, List.map_map]; rfl, by
    clear hA h
    induction ds with
    | nil => rfl
    | cons d ds ih => simpa [AV.ltAll, AV.lt] using ih, rfl, rfl⟩, hA⟩
/-- f(..) in a try: the wish stands at the slots -/
theorem evx_callS {A : ASpX} (h : Evs K C E cs tas fun xs cs1 => Calls A xs cs1 k fun c p cs' => ex c p E cs') : EvX K C W ex E cs (tCallS (spAX K C A) (WE W) tas) k := fun F as H σ Q w e z zx => by
  refine h F as H σ _ w e fun xs cs1 vs F1 as1 H1 ⟨is, zs, cz, ok, hA⟩ s1 w1 r1 => ?_
  exact call_coreX ok w1 r1 hA (Kt.later z s1) fun c p cs' F' as' H' d h s => zx c p cs' F' as' H' d h (s1.tr s)
/-- f(..), what it raises goes on out of the def -/
theorem evx_callP {A : ASpX} {X : XK} (h : Evs K C E cs tas fun xs cs1 => Calls A xs cs1 k fun c p cs' => ex c p E cs') : EvX K C (fun cls d _ H => X cls d H) ex E cs (tCall (spAX K C A) [] X tas) k := fun F as H σ Q w e z zx => by
  refine h F as H σ _ w e fun xs cs1 vs F1 as1 H1 ⟨is, zs, cz, ok, hA⟩ s1 w1 r1 => ?_
  show spAX K C A (vs ++ []) H1 Q X
  rw [List.append_nil]
  exact call_coreX ok w1 r1 hA (Kt.later z s1) fun c p cs' F' as' H' d h s => zx c p cs' F' as' H' d h (s1.tr s)
/-- f(..), which does not raise here -/
theorem ev_callNX {A : ASpX} {X : XK} (h : Evs K C E cs tas fun xs cs1 => Calls A xs cs1 k fun _ _ _ => False) : Ev K C E cs (tCall (spAX K C A) [] X tas) k := fun F as H σ Q w e z => by
  refine h F as H σ _ w e fun xs cs1 vs F1 as1 H1 ⟨is, zs, cz, ok, hA⟩ s1 w1 r1 => ?_
  show spAX K C A (vs ++ []) H1 Q X
  rw [List.append_nil]
  exact call_coreX ok w1 r1 (kx := fun _ _ _ => False) hA (Kt.later z s1) fun c p cs' F' as' H' d h s => h.elim
/-- f(k = v) in a try -/
theorem evx_callN0S {A : ASpX} {m : Nat} {gV : List V → List V → List V} (hg : ∀ vs, gV [] vs = vs) (h : Evs K C E cs tas fun xs cs1 => xs.length = m ∧ Calls A xs cs1 k fun c p cs' => ex c p E cs') : EvX K C W ex E cs (tCallN0S m (spAX K C A) gV (WE W) tas) k := fun F as H σ Q w e z zx => by
  refine h F as H σ _ w e fun xs cs1 vs F1 as1 H1 ⟨hm, is, zs, cz, ok, hA⟩ s1 w1 r1 => ⟨by rw [← r1.length]; exact hm, ?_⟩
  rw [hg]
  exact call_coreX ok w1 r1 hA (Kt.later z s1) fun c p cs' F' as' H' d h s => zx c p cs' F' as' H' d h (s1.tr s)
/-- s.m(..), s a script -/
theorem evx_methX {A : ASpX} {m : Str} (hm : m ≠ "kept_steps") (h : Ev K C E cs te fun x cs1 => IsScr x fun ds => Evs K C E cs1 tas fun xs cs2 => Calls A (.scr ds :: xs) cs2 k fun c p cs' => ex c p E cs') : EvX K C W ex E cs (tMethX C m (spAX K C A) (WE W) te tas) k := fun F as H σ Q w e z zx => by
  refine h F as H σ _ w e fun x cs1 v F1 as1 H1 ⟨ds, hx, h1⟩ s1 w1 r1 => ?_
  subst hx
  have r1' := r1
  cases r1 with | scr hs =>
  obtain ⟨dx, u, h2, h3⟩ := hs
  refine ⟨_, dx, _, rfl, w1.fro _ _ h2, by rw [lookup_putF, if_neg hm]; rfl, ?_⟩
  refine h1 F1 as1 H1 σ _ w1 (e.mono s1.f s1.pre) fun xs cs2 vs F2 as2 H2 ⟨is, zs, cz, ok, hA⟩ s2 w2 r2 => ?_
  exact call_coreX ok w2 (.cons (r1'.mono s2.f s2.pre) r2) hA (Kt.later z (s1.tr s2)) fun c p cs' F' as' H' d h s => zx c p cs' F' as' H' d h ((s1.tr s2).tr s)
theorem evx_methNS {A : ASpX} {m : Str} {l : Nat} {gV : List V → List V → List V} (hg : ∀ a vs, gV [a] vs = a :: vs) (hm : m ≠ "kept_steps") (h : Ev K C E cs te fun x cs1 => IsScr x fun ds => Evs K C E cs1 tas fun xs cs2 => xs.length = l ∧ Calls A (.scr ds :: xs) cs2 k fun c p cs' => ex c p E cs') : EvX K C W ex E cs (tMethNS C m l (spAX K C A) gV (WE W) te tas) k := fun F as H σ Q w e z zx => by
  refine h F as H σ _ w e fun x cs1 v F1 as1 H1 ⟨ds, hx, h1⟩ s1 w1 r1 => ?_
  subst hx
  have r1' := r1
  cases r1 with | scr hs =>
  obtain ⟨dx, u, h2, h3⟩ := hs
  refine ⟨_, dx, _, rfl, w1.fro _ _ h2, by rw [lookup_putF, if_neg hm]; rfl, ?_⟩
  refine h1 F1 as1 H1 σ _ w1 (e.mono s1.f s1.pre) fun xs cs2 vs F2 as2 H2 ⟨hl, is, zs, cz, ok, hA⟩ s2 w2 r2 => ⟨by rw [← r2.length]; exact hl, ?_⟩
  rw [hg]
  exact call_coreX ok w2 (.cons (r1'.mono s2.f s2.pre) r2) hA (Kt.later z (s1.tr s2)) fun c p cs' F' as' H' d h s => zx c p cs' F' as' H' d h ((s1.tr s2).tr s)
theorem evx_ixOS {A : ASpX} (h : Ev K C E cs ta fun x cs1 => IsScr x fun ds => Ev K C E cs1 tb fun y cs2 => Calls A [.scr ds, y] cs2 k fun c p cs' => ex c p E cs') : EvX K C W ex E cs (tIxOS C (spAX K C A) (WE W) ta tb) k := fun F as H σ Q w e z zx => by
  refine h F as H σ _ w e fun x cs1 v F1 as1 H1 ⟨ds, hx, h1⟩ s1 w1 r1 => ?_
  subst hx
  refine h1 F1 as1 H1 σ _ w1 (e.mono s1.f s1.pre) fun y cs2 u F2 as2 H2 ⟨is, zs, cz, ok, hA⟩ s2 w2 r2 => ?_
  have r1' := r1.mono s2.f s2.pre
  have r1'' := r1'
  cases r1' with | scr hs =>
  obtain ⟨dx, u, h2, h3⟩ := hs
  exact ⟨_, dx, _, rfl, w2.fro _ _ h2, call_coreX ok w2 (.cons r1'' (.cons r2 .nil)) hA (Kt.later z (s1.tr s2)) fun c p cs' F' as' H' d h s => zx c p cs' F' as' H' d h ((s1.tr s2).tr s)⟩
theorem evx_addOS {A : ASpX} (h : Ev K C E cs ta fun x cs1 => IsScr x fun ds => Ev K C E cs1 tb fun y cs2 => IsScr y fun es => Calls A [.scr ds, .scr es] cs2 (fun r cs' => (∃ rs, r = .scr rs) ∧ k r cs') fun c p cs' => ex c p E cs') : EvX K C W ex E cs (tAddOS C (spAX K C A) (WE W) ta tb) k := fun F as H σ Q w e z zx => by
  refine h F as H σ _ w e fun x cs1 v F1 as1 H1 ⟨ds, hx, h1⟩ s1 w1 r1 => ?_
  subst hx
  refine h1 F1 as1 H1 σ _ w1 (e.mono s1.f s1.pre) fun y cs2 u F2 as2 H2 ⟨es, hy, is, zs, cz, ok, hA⟩ s2 w2 r2 => ?_
  subst hy
  have r1' := r1.mono s2.f s2.pre
  have r1'' := r1'
  have r2' := r2
  cases r1' with | scr hs =>
  cases r2 with | scr hs2 =>
  obtain ⟨dx, u, h2, h3⟩ := hs
  obtain ⟨dx2, u2, h22, h32⟩ := hs2
  refine ⟨_, dx, _, _, dx2, _, rfl, rfl, w2.fro _ _ h2, w2.fro _ _ h22, ?_⟩
  refine call_coreX (k := fun r cs' => (∃ rs, r = .scr rs) ∧ k r cs') ok w2 (.cons r1'' (.cons r2' .nil)) hA (fun r cs' v F' as' H' ⟨⟨rs, hr⟩, hk⟩ s w' ar => ⟨?_, ?_⟩) fun c p cs' F' as' H' d h s => zx c p cs' F' as' H' d h ((s1.tr s2).tr s)
  · subst hr; cases ar; exact ⟨_, rfl⟩
  · exact z r cs' v F' as' H' hk ((s1.tr s2).tr s) w' ar
/-! ### raise -/
/-- the __init__ of an error with one field -/
def spOInit (c : Addr) (f : Str) : Sp := fun vs H Q _ => ∃ a v, vs = [.ref a, v] ∧ H a = some (exo a c none) ∧ ∀ dx, H dx = none → dx ≠ a → Q .non (upd (upd H dx (exd dx [(f, v)])) a (exo a c (some dx)))
def tRaiseO (c : Addr) (f : Str) (W : WX) (tas : TA) : TS := fun _ σ H => tMkO c (spOInit c f) [] tas σ H fun cls d H' => W cls d σ H'
theorem ps_raiseO {X : Cx} {CX : CXT} {x : Str} {c fI : Addr} {l : Nat} {fd : FuncData} {ps : List Str} {f : Str} {e : Expr} {es : List Expr} {ta : TA} {p pos pos2 : Pos} {W : WX} (hc : X.calm = true) (T : OexC X.K c) (iC : PySem.W.findIn X.K (.ref c) "__init__" = some (some (.ref fI))) (tI : PySem.W.typeIn X.K (.ref fI) = some (.type "function"))
    (F1 : FnOk X.prog X.w X.K X.mg X.base CX l fI fd ps (spOInit c f)) (hr : Room (l + 1) X.A) (hb : Binds X.K fd ps []) (hx : Passes CX X (fun _ _ _ => False)) (tk : Takes X W) (hg : Gl X x) (hm : X.mg x = some (.ref c)) (ha : PA X (e :: es) ta)
    (hdb : (x == ("__debug__" : Str)) = false := by decide) (he : starEach (e :: es) X.env = (false, eval e X.env) :: starEach es X.env := by rfl) (hpl : (backTo pos (starEach es X.env)).any (·.1) = false := by rfl) :
    PS X (.Raise (some (.Call (.Name x p) (e :: es) [] pos)) none pos2) (tRaiseO c f W ta) := ps_raise hc tk (pmk_oex T iC tI F1 hr hb .nil hx hg hm ha hdb he hpl)
theorem ex_raiseO {c : Addr} {f : Str} (h : Evs K C E cs tas fun xs cs1 => ∃ x, xs = [x] ∧ D.ex c (.fld f x) E cs1) : Ex K C n E cs (tRaiseO c f D.W tas) D := fun F as H σ Dc hn w e d => by
  have hn' : n ≤ as.length := by rw [w.len]; exact hn
  refine h F as H σ _ w e fun xs cs1 vs F1 as1 H1 ⟨x, hx, h1⟩ s1 w1 r1 => ?_
  subst hx
  cases r1 with | cons r1 r2 =>
  cases r2
  rename_i v
  refine ⟨by simp, fun a na => ⟨a, v, rfl, upd_same, fun dx nd hne => ?_⟩⟩
  have nd' : H1 dx = none := by rw [upd_ne hne] at nd; exact nd
  refine ⟨rfl, dx, [(f, v)], upd_same, by rw [upd_ne hne]; exact upd_same, nd', ?_⟩
  have eH : upd (del (upd (upd (upd H1 a (exo a c none)) dx (exd dx [(f, v)])) a (exo a c (some dx))) a) dx (.xd [(f, v)]) = upd H1 dx (.xd [(f, v)]) := by
    funext b
    by_cases hb : b = dx
    · subst hb; rw [upd_same, upd_same]
    · rw [upd_ne hb, upd_ne hb]
      by_cases hb2 : b = a
      · subst hb2; rw [del_same, na]
      · rw [del_ne hb2, upd_ne hb2, upd_ne hb, upd_ne hb2]
  rw [eH]
  obtain ⟨w2, s2, sF⟩ := w1.newF nd' (.xd [(f, v)])
  have s12 := s1.tr s2
  exact d.ex c (.fld f x) E cs1 _ as1 _ σ (some dx) h1 (s12.weak hn') w2 (e.mono s12.f s12.pre) ⟨dx, v, rfl, upd_same, r1.mono sF Pre.refl⟩
/-- raise X('..'), X without a field -/
theorem ex_raiseN {c : Addr} (h : D.ex c .no E cs) : Ex K C n E cs (fun _ σ H => D.W (.ref c) none σ H) D := fun F as H σ Dc hn w e d => d.ex c .no E cs F as H σ none h Stp.refl w e rfl
/-! ### try -/
def Hand (P : AV → Option Addr → Prop) : XP → Addr → Prop
  | .fld f x, a => ∀ dd, P (.exn a dd f x) (some dd)
  | .no, a => P (.raw a) none
def dAs (i : Nat) (D : AEnds) : AEnds := { D with nx := fun E2 cs2 => D.nx (E2.set i none) cs2, bk := fun E2 cs2 => D.bk (E2.set i none) cs2, ct := fun E2 cs2 => D.ct (E2.set i none) cs2 }
theorem hand_env {P : AV → Option Addr → Prop} {p : XP} {a : Addr} {d : Option Addr} (h : Hand P p a) (r : XR K C F as p d) : ∃ y, P y d ∧ AR K C F as y (.ref a) := by
  cases p with
  | no =>
    have r : d = none := r
    subst r
    exact ⟨_, h, .raw⟩
  | fld f x =>
    obtain ⟨q, v, rfl, h2, h3⟩ := r
    exact ⟨_, h q, .exn h2 h3⟩
theorem endsAs_ok {i : Nat} {Dc : Ends} (d : EndsR K C n F as H D Dc) : EndsR K C n F as H (dAs i D) (endsAs i Dc) :=
  ⟨fun E cs F' as' H' σ h s w e => d.nx _ cs F' as' H' _ h s w e.setN, d.rt, fun E cs F' as' H' σ h s w e => d.bk _ cs F' as' H' _ h s w e.setN, fun E cs F' as' H' σ h s w e => d.ct _ cs F' as' H' _ h s w e.setN, d.ex⟩
theorem ex_tryAs {c : Value} {i : Nat} {ts : Addr → Value → Option Addr → TS} {Wout : WX} {tb : WX → TS}
    (h : ∀ W, Ex K C n E cs (tb W) { D with W := W, ex := fun cl p E' cs' => PySem.W.exmOne K (.ref cl) c = some true ∧ ∀ a, Hand (fun y d => Ex K C n (E'.set i (some y)) cs' (ts a (.ref cl) d) (dAs i D)) p a }) :
    Ex K C n E cs (fun Dc σ H => tb (wAs K c i ts Wout Dc) Dc σ H) D := fun F as H σ Dc hn w e d => by
  have hn' : n ≤ as.length := by rw [w.len]; exact hn
  refine h _ F as H σ Dc hn w e ⟨d.nx, d.rt, d.bk, d.ct, fun cl p E' cs' F' as' H' σ' dd ⟨h1, h2⟩ s w' e' r => ⟨true, h1, fun _ a ha => ?_, fun z => by cases z⟩⟩
  obtain ⟨y, hy, ry⟩ := hand_env (h2 a) r
  exact hy F' as' H' _ _ (by rw [← w'.len]; exact s.len hn') w' (e'.set ry) (endsAs_ok (d.later s))
/-- what the clauses ask, one behind the other -/
def HandL (K : PySem.W.Frag) (C : Addr) (n i : Nat) (D : AEnds) (cl : Addr) (p : XP) (E' : AEnv) (cs' : List Cell) : List (Value × (Addr → Value → Option Addr → TS)) → Prop
  | [] => False
  | (c, ts) :: r => ∃ b, PySem.W.exmOne K (.ref cl) c = some b ∧ (b = true → ∀ a, Hand (fun y d => Ex K C n (E'.set i (some y)) cs' (ts a (.ref cl) d) (dAs i D)) p a) ∧ (b = false → HandL K C n i D cl p E' cs' r)
theorem ex_tryL {i : Nat} {l : List (Value × (Addr → Value → Option Addr → TS))} {Wout : WX} {tb : WX → TS}
    (h : ∀ W, Ex K C n E cs (tb W) { D with W := W, ex := fun cl p E' cs' => HandL K C n i D cl p E' cs' l }) :
    Ex K C n E cs (fun Dc σ H => tb (wManyAs K i Wout Dc l) Dc σ H) D := fun F as H σ Dc hn w e d => by
  have hn' : n ≤ as.length := by rw [w.len]; exact hn
  refine h _ F as H σ Dc hn w e ⟨d.nx, d.rt, d.bk, d.ct, fun cl p E' cs' F' as' H' σ' dd h2 s w' e' r => ?_⟩
  have go : ∀ l, HandL K C n i D cl p E' cs' l → wManyAs K i Wout Dc l (.ref cl) dd σ' H' := by
    intro l
    induction l with
    | nil => exact fun h => h.elim
    | cons x l ih =>
      obtain ⟨c, ts⟩ := x
      rintro ⟨b, h1, h3, h4⟩
      refine ⟨b, h1, fun hb a ha => ?_, fun hb => ih (h4 hb)⟩
      obtain ⟨y, hy, ry⟩ := hand_env (h3 hb a) r
      exact hy F' as' H' _ _ (by rw [← w'.len]; exact s.len hn') w' (e'.set ry) (endsAs_ok (d.later s))
  exact go l h2
/-! ### in the suite -/
theorem ev_xf {a cl dd : Addr} {f : Str} (h : Ev K C E cs te fun x cs1 => ∃ y, x = .exn a dd f y ∧ k y cs1) : Ev K C E cs (tXf a (.ref cl) (some dd) cl f te) k := fun F as H σ Q w e z => by
  refine h F as H σ _ w e fun x cs1 v F1 as1 H1 ⟨y, hx, h1⟩ s1 w1 r1 => ?_
  subst hx
  cases r1 with | exn r1 r2 =>
  exact ⟨rfl, rfl, dd, _, _, rfl, w1.fro _ _ r1, by simp [List.lookup], z y cs1 _ F1 as1 H1 h1 s1 w1 r2⟩
theorem ev_raw {a : Addr} (q : k (.raw a) cs) : Ev K C E cs (tC (.ref a)) k := fun F as H σ Q w e z => z _ cs _ F as H q Stp.refl w .raw
theorem on_isX {a cl dd cx : Addr} {f : Str} {b : Bool} (hC : ExcC K cl) (hk : PySem.W.kitOne K (.ref cl) (.ref cx) = some b) (h : k (.d (.bool b)) cs) : On K C (rIsX K a (.ref cl) (some dd)) [.exn a dd f y, .raw cx] cs k := fun F as H vs Q w r q => by
  cases r with | cons r1 r2 =>
  cases r2 with | cons r2 r3 =>
  cases r3
  cases r1 with | exn r1 r4 =>
  cases r2
  exact ⟨cl, .ref cx, .ref cx, b, rfl, hC, rfl, fun u hu => by cases hu; rfl, hk, fun d' e => by cases e; exact ⟨_, w.fro _ _ r1⟩, q.now h w (.d (.bl b))⟩
theorem on_isXT {a cl dd : Addr} {f : Str} {s : String} {b : Bool} (hC : ExcC K cl) (hk : PySem.W.kitOne K (.ref cl) (.type s) = some b) (h : k (.d (.bool b)) cs) : On K C (rIsX K a (.ref cl) (some dd)) [.exn a dd f y, .ty s] cs k := fun F as H vs Q w r q => by
  cases r with | cons r1 r2 =>
  cases r2 with | cons r2 r3 =>
  cases r3
  cases r1 with | exn r1 r4 =>
  cases r2
  exact ⟨cl, .ty s, .type s, b, rfl, hC, rfl, fun u hu => by cases hu; rfl, hk, fun d' e => by cases e; exact ⟨_, w.fro _ _ r1⟩, q.now h w (.d (.bl b))⟩
/-- a frozen empty dict -/
theorem ev_dct (q : k .dct cs) : Ev K C E cs tDNewK k := fun F as H σ Q w e z => fun p hp => Kt.frz z w hp q (.dct upd_same)
/-! ### a body -/
theorem body_goX {N : List Str} {xs : List AV} {vs : List V} {t : TS} {Q : VK} {X : XK} {kx : KX} {n : Nat} (E : AEnv) (hE : startE N xs = E) (hn : cs.length = n) (w : Wd K C F as cs H) (r : ARs K C F as xs vs)
    (hx : Ex K C n E cs t { nx := fun _ cs' => Rt n k (.d .none) cs', rt := Rt n k, W := fun cls d _ H => X cls d H, ex := fun c p _ cs' => kx c p cs' })
    (q : ∀ r cs' v F' as' H', k r cs' → Stp as.length F as H F' as' H' → Wd K C F' as' cs' H' → AR K C F' as' r v → Q v H')
    (qx : ∀ c p cs' d F' as' H', kx c p cs' → Stp as.length F as H F' as' H' → Wd K C F' as' cs' H' → XR K C F' as' p d → X (.ref c) d H') : t { nx := fun _ H' => Q .non H', rt := Q } (L2.start N vs) H := by
  subst hn; subst hE
  have key : ∀ r cs' v F' as' H', Rt cs.length k r cs' → Stp as.length F as H F' as' H' → Wd K C F' as' cs' H' → AR K C F' as' r v → Q v H' := fun r cs' v F' as' H' h s w' r' => h.run w s w' r' fun r1 cs1 as1 hk s1 w1 a1 => q r1 cs1 v F' as1 H' hk s1 w1 a1
  refine hx F as H _ _ (Nat.le_refl _) w (EnvR.start r) ⟨fun E' cs' F' as' H' σ h s w' _ => key _ cs' _ F' as' H' h (s.weak (by rw [w.len]; exact Nat.le_refl _)) w' (.d .non), fun x cs' F' as' H' v h s w' r' => key x cs' v F' as' H' h (s.weak (by rw [w.len]; exact Nat.le_refl _)) w' r', fun _ _ _ _ _ _ h => h.elim, fun _ _ _ _ _ _ h => h.elim, fun c p E' cs' F' as' H' σ d h s w' _ xr => qx c p cs' d F' as' H' h (s.weak (by rw [w.len]; exact Nat.le_refl _)) w' xr⟩
end
end Y

namespace Y
open PySem L2
def top (i : Nat) : Stmt := PySem.Challenge.pw_yearturned_k11_script_texts_refused.main.body.getD i (.Pass ⟨0, 0, 0, 0⟩)
abbrev s_NoStep_init : Stmt := inClass (top 3) 0
abbrev s_NoText_init : Stmt := inClass (top 5) 0
abbrev s_is_whole : Stmt := top 7
abbrev s_is_step : Stmt := top 11
abbrev s_Script_init : Stmt := inClass (top 12) 0
abbrev s_Script_len : Stmt := inClass (top 12) 3
abbrev s_Script_has : Stmt := inClass (top 12) 7
abbrev s_Script_steps : Stmt := inClass (top 12) 8
abbrev s_read_script : Stmt := top 16
abbrev s_well : Stmt := top 18
abbrev s_draw : Stmt := top 19
abbrev s_menu : Stmt := top 20
abbrev s_row : Stmt := top 21
abbrev s_same : Stmt := top 22
abbrev s_script_text : Stmt := top 23
abbrev s_whole : Stmt := top 24
abbrev s_edit : Stmt := top 25
abbrev s_due : Stmt := top 26
abbrev s_near_part : Stmt := top 27
abbrev s_spoilt : Stmt := top 28
abbrev s_tried : Stmt := top 29
abbrev s_classes : Stmt := top 30
abbrev s_right : Stmt := top 31
abbrev s_law : Stmt := top 32
theorem sc_is_whole : FnScope ["thing"] ["thing"] (defScope s_is_whole) := ⟨rfl, rfl, rfl, by decide +kernel, rfl, by decide +kernel, by decide +kernel⟩
theorem sc_is_step : FnScope ["thing", "word"] ["thing"] (defScope s_is_step) := ⟨rfl, rfl, rfl, by decide +kernel, rfl, by decide +kernel, by decide +kernel⟩
theorem sc_Script_init : FnScope ["self", "steps", "index", "step"] ["self", "steps"] (defScope s_Script_init) := ⟨rfl, rfl, rfl, by decide +kernel, rfl, by decide +kernel, by decide +kernel⟩
theorem sc_Script_steps : FnScope ["self"] ["self"] (defScope s_Script_steps) := ⟨rfl, rfl, rfl, by decide +kernel, rfl, by decide +kernel, by decide +kernel⟩
theorem sc_Script_len : FnScope ["self"] ["self"] (defScope s_Script_len) := ⟨rfl, rfl, rfl, by decide +kernel, rfl, by decide +kernel, by decide +kernel⟩
theorem sc_Script_has : FnScope ["self", "index"] ["self", "index"] (defScope s_Script_has) := ⟨rfl, rfl, rfl, by decide +kernel, rfl, by decide +kernel, by decide +kernel⟩
theorem sc_read_script : FnScope ["text", "steps", "index", "part", "step"] ["text"] (defScope s_read_script) := ⟨rfl, rfl, rfl, by decide +kernel, rfl, by decide +kernel, by decide +kernel⟩
theorem sc_NoStep_init : FnScope ["self", "index"] ["self", "index"] (defScope s_NoStep_init) := ⟨rfl, rfl, rfl, by decide +kernel, rfl, by decide +kernel, by decide +kernel⟩
theorem sc_NoText_init : FnScope ["self", "part"] ["self", "part"] (defScope s_NoText_init) := ⟨rfl, rfl, rfl, by decide +kernel, rfl, by decide +kernel, by decide +kernel⟩
theorem sc_well : FnScope ["script", "k", "cell", "deep"] ["script", "k"] (defScope s_well) := ⟨rfl, rfl, rfl, by decide +kernel, rfl, by decide +kernel, by decide +kernel⟩
theorem sc_draw : FnScope ["well", "many", "found", "turn", "mixed"] ["well", "many"] (defScope s_draw) := ⟨rfl, rfl, rfl, by decide +kernel, rfl, by decide +kernel, by decide +kernel⟩
theorem sc_menu : FnScope ["found", "word"] [] (defScope s_menu) := ⟨rfl, rfl, rfl, by decide +kernel, rfl, by decide +kernel, by decide +kernel⟩
theorem sc_row : FnScope ["well", "most", "menu", "few", "found", "turn"] ["well", "most"] (defScope s_row) := ⟨rfl, rfl, rfl, by decide +kernel, rfl, by decide +kernel, by decide +kernel⟩
theorem sc_same : FnScope ["actual", "expected", "k"] ["actual", "expected"] (defScope s_same) := ⟨rfl, rfl, rfl, by decide +kernel, rfl, by decide +kernel, by decide +kernel⟩
theorem sc_script_text : FnScope ["row", "step"] ["row"] (defScope s_script_text) := ⟨rfl, rfl, rfl, by decide +kernel, rfl, by decide +kernel, by decide +kernel⟩
theorem sc_whole : FnScope ["actual", "expected"] ["actual", "expected"] (defScope s_whole) := ⟨rfl, rfl, rfl, by decide +kernel, rfl, by decide +kernel, by decide +kernel⟩
theorem sc_edit : FnScope ["well", "page", "signs", "way", "at", "sign"] ["well", "page"] (defScope s_edit) := ⟨rfl, rfl, rfl, by decide +kernel, rfl, by decide +kernel, by decide +kernel⟩
theorem sc_due : FnScope ["page", "parts", "found", "k", "step"] ["page"] (defScope s_due) := ⟨rfl, rfl, rfl, by decide +kernel, rfl, by decide +kernel, by decide +kernel⟩
theorem sc_near_part : FnScope ["well", "near"] ["well"] (defScope s_near_part) := ⟨rfl, rfl, rfl, by decide +kernel, rfl, by decide +kernel, by decide +kernel⟩
theorem sc_spoilt : FnScope ["well", "page", "way", "parts", "spot", "other", "step"] ["well", "page"] (defScope s_spoilt) := ⟨rfl, rfl, rfl, by decide +kernel, rfl, by decide +kernel, by decide +kernel⟩
theorem sc_tried : FnScope ["page", "found", "result", "e"] ["page"] (defScope s_tried) := ⟨rfl, rfl, rfl, by decide +kernel, rfl, by decide +kernel, by decide +kernel⟩
theorem sc_classes : FnScope ["page", "found", "e"] ["page"] (defScope s_classes) := ⟨rfl, rfl, rfl, by decide +kernel, rfl, by decide +kernel, by decide +kernel⟩
theorem sc_right : FnScope ["page", "due", "found", "result"] ["page", "due"] (defScope s_right) := ⟨rfl, rfl, rfl, by decide +kernel, rfl, by decide +kernel, by decide +kernel⟩
theorem sc_law : FnScope ["script", "k", "well", "way", "spoils", "page", "thing", "turn"] ["script"] (defScope s_law) := ⟨rfl, rfl, rfl, by decide +kernel, rfl, by decide +kernel, by decide +kernel⟩
/-- a def of the module, a def of a class, as the top has left them -/
structure Df (K : PySem.W.Frag) (mg : Str → Option Value) (x : Str) (st : Stmt) (ps : List Str) where
  a : Addr
  fd : FuncData
  F : Fun K x x st a fd
  g : mg x = some (.ref a)
  b : Binds K fd ps []
structure Mt (K : PySem.W.Frag) (C : Addr) (m q : Str) (st : Stmt) (ps : List Str) where
  a : Addr
  fd : FuncData
  F : Fun K m q st a fd
  m : Meth K C m a
  b : Binds K fd ps []
/-- a property of a class -/
structure Pp (K : PySem.W.Frag) (C : Addr) (m q : Str) (st : Stmt) (ps : List Str) where
  a : Addr
  p : Addr
  fd : FuncData
  F : Fun K m q st a fd
  po : PropOf K C m p a
  b : Binds K fd ps []
theorem Mt.spc {K : PySem.W.Frag} {C : Addr} {m q : Str} {st : Stmt} {ps : List Str} (M : Mt K C m q st ps) : Spc K C m M.a := ⟨M.m.at_, M.m.fn⟩

structure Tx (K : PySem.W.Frag) (mg : Str → Option Value) where
  c_Script : Addr
  g_Script : mg "Script" = some (.ref c_Script)
  c_TurnError : Addr
  g_TurnError : mg "TurnError" = some (.ref c_TurnError)
  c_NoStep : Addr
  g_NoStep : mg "NoStep" = some (.ref c_NoStep)
  c_NoText : Addr
  g_NoText : mg "NoText" = some (.ref c_NoText)
  c_NoDeed : Addr
  g_NoDeed : mg "NoDeed" = some (.ref c_NoDeed)
  is_whole : Df K mg "is_whole" s_is_whole ["thing"]
  is_step : Df K mg "is_step" s_is_step ["thing"]
  Script_init : Mt K c_Script "__init__" "Script.__init__" s_Script_init ["self", "steps"]
  Script_steps : Mt K c_Script "steps" "Script.steps" s_Script_steps ["self"]
  Script_len : Mt K c_Script "__len__" "Script.__len__" s_Script_len ["self"]
  Script_has : Mt K c_Script "has" "Script.has" s_Script_has ["self", "index"]
  read_script : Df K mg "read_script" s_read_script ["text"]
  NoStep_init : Mt K c_NoStep "__init__" "NoStep.__init__" s_NoStep_init ["self", "index"]
  NoText_init : Mt K c_NoText "__init__" "NoText.__init__" s_NoText_init ["self", "part"]
  well : Df K mg "_law_well" s_well ["script", "k"]
  draw : Df K mg "_law_draw" s_draw ["well", "many"]
  menu : Df K mg "_law_menu" s_menu []
  row : Df K mg "_law_row" s_row ["well", "most"]
  same : Df K mg "_law_same" s_same ["actual", "expected"]
  script_text : Df K mg "_law_script_text" s_script_text ["row"]
  whole : Df K mg "_law_whole" s_whole ["actual", "expected"]
  edit : Df K mg "_law_edit" s_edit ["well", "page"]
  due : Df K mg "_law_due" s_due ["page"]
  near_part : Df K mg "_law_near_part" s_near_part ["well"]
  spoilt : Df K mg "_law_spoilt" s_spoilt ["well", "page"]
  tried : Df K mg "_law_tried" s_tried ["page"]
  classes : Df K mg "_law_classes" s_classes ["page"]
  right : Df K mg "_law_right" s_right ["page", "due"]
  law : Df K mg "law" s_law ["script"]
  cl_Script : Cls K c_Script
  ic_Script : InsI K c_Script
  mk_Script : Mk K c_Script Script_init.a
  na_Script_kept_steps : NoAttr K c_Script "kept_steps"
  xf_TurnError : XfC K c_TurnError
  xc_TurnError : ExcC K c_TurnError
  kv_TurnError : PySem.W.kitOne K (.ref c_TurnError) (.type "ValueError") = some true
  xf_NoStep : XfC K c_NoStep
  xc_NoStep : ExcC K c_NoStep
  kv_NoStep : PySem.W.kitOne K (.ref c_NoStep) (.type "ValueError") = some true
  ox_NoStep : OexC K c_NoStep
  nf_NoStep : PySem.W.findIn K (.ref c_NoStep) "index" = some none
  tt_NoStep : PySem.W.typeIn K (.ref NoStep_init.a) = some (.type "function")
  xf_NoText : XfC K c_NoText
  xc_NoText : ExcC K c_NoText
  kv_NoText : PySem.W.kitOne K (.ref c_NoText) (.type "ValueError") = some true
  ox_NoText : OexC K c_NoText
  nf_NoText : PySem.W.findIn K (.ref c_NoText) "part" = some none
  tt_NoText : PySem.W.typeIn K (.ref NoText_init.a) = some (.type "function")
  xf_NoDeed : XfC K c_NoDeed
  xc_NoDeed : ExcC K c_NoDeed
  kv_NoDeed : PySem.W.kitOne K (.ref c_NoDeed) (.type "ValueError") = some true
  em_TurnError_TurnError : PySem.W.exmOne K (.ref c_TurnError) (.ref c_TurnError) = some true
  ki_TurnError_TurnError : PySem.W.kitOne K (.ref c_TurnError) (.ref c_TurnError) = some true
  em_NoStep_TurnError : PySem.W.exmOne K (.ref c_NoStep) (.ref c_TurnError) = some true
  ki_NoStep_TurnError : PySem.W.kitOne K (.ref c_NoStep) (.ref c_TurnError) = some true
  em_NoStep_NoStep : PySem.W.exmOne K (.ref c_NoStep) (.ref c_NoStep) = some true
  ki_NoStep_NoStep : PySem.W.kitOne K (.ref c_NoStep) (.ref c_NoStep) = some true
  em_NoStep_NoText : PySem.W.exmOne K (.ref c_NoStep) (.ref c_NoText) = some false
  ki_NoStep_NoText : PySem.W.kitOne K (.ref c_NoStep) (.ref c_NoText) = some false
  em_NoStep_NoDeed : PySem.W.exmOne K (.ref c_NoStep) (.ref c_NoDeed) = some false
  ki_NoStep_NoDeed : PySem.W.kitOne K (.ref c_NoStep) (.ref c_NoDeed) = some false
  em_NoText_TurnError : PySem.W.exmOne K (.ref c_NoText) (.ref c_TurnError) = some true
  ki_NoText_TurnError : PySem.W.kitOne K (.ref c_NoText) (.ref c_TurnError) = some true
  em_NoText_NoStep : PySem.W.exmOne K (.ref c_NoText) (.ref c_NoStep) = some false
  ki_NoText_NoStep : PySem.W.kitOne K (.ref c_NoText) (.ref c_NoStep) = some false
  em_NoText_NoText : PySem.W.exmOne K (.ref c_NoText) (.ref c_NoText) = some true
  ki_NoText_NoText : PySem.W.kitOne K (.ref c_NoText) (.ref c_NoText) = some true
  em_NoText_NoDeed : PySem.W.exmOne K (.ref c_NoText) (.ref c_NoDeed) = some false
  ki_NoText_NoDeed : PySem.W.kitOne K (.ref c_NoText) (.ref c_NoDeed) = some false
  em_NoDeed_NoDeed : PySem.W.exmOne K (.ref c_NoDeed) (.ref c_NoDeed) = some true
  ki_NoDeed_NoDeed : PySem.W.kitOne K (.ref c_NoDeed) (.ref c_NoDeed) = some true
  a_STEPS : Addr
  g_STEPS : mg "STEPS" = some (.ref a_STEPS)
  d_STEPS : ∀ H, Dp K H (.ref a_STEPS) (.tuple [(.tuple [(.str "make"), (.str "all")]), (.tuple [(.str "make"), (.str "standing")]), (.tuple [(.str "start"), (.str "new")]), (.tuple [(.str "start"), (.str "all")]), (.tuple [(.str "start"), (.str "free")]), (.tuple [(.str "label"), (.str "new")]), (.tuple [(.str "label"), (.str "all")]), (.tuple [(.str "label"), (.str "free")]), (.tuple [(.str "tie"), (.str "new")]), (.tuple [(.str "tie"), (.str "all")]), (.tuple [(.str "tie"), (.str "free")]), (.tuple [(.str "drop")])])
  t_MOST_STEPS : Tok
  g_MOST_STEPS : mg "MOST_STEPS" = some (.int 12 t_MOST_STEPS)
  t_NOTHING : Tok
  g_NOTHING : mg "NOTHING" = some (.str "nothing" t_NOTHING)
  t_BETWEEN : Tok
  g_BETWEEN : mg "BETWEEN" = some (.str ", " t_BETWEEN)
  b_len : mg "len" = none
  b_isinstance : mg "isinstance" = none
  b_int : mg "int" = none
  b_bool : mg "bool" = none
  b_str : mg "str" = none
  b_tuple : mg "tuple" = none
  b_list : mg "list" = none
  b_all : mg "all" = none
  b_max : mg "max" = none
  b_range : mg "range" = none
  b_enumerate : mg "enumerate" = none
  b_ValueError : mg "ValueError" = none
  kb_read_script_0 : KBn K read_script.fd ["text"] 0 ["text"] (fun us ws => us ++ ws) (fun vs zs => vs ++ zs)
end Y
namespace Y
open PySem L2
local macro_rules | `(tactic| walk_at "y") => `(tactic| repeat (first | refine ⟨_, rfl, ?_⟩ | refine ⟨_, _, rfl, rfl, ?_⟩))
theorem iteB {A B : Prop} {c : Bool} (h1 : c = true → A) (h2 : c = false → B) : if c = true then A else B := by
  cases c with
  | true => exact h1 rfl
  | false => rw [if_neg (by decide)]; exact h2 rfl
abbrev T7 : List String := ["NoneType", "bool", "int", "str", "list", "tuple", "dict"]
def STEPSD : List PyData := [.tuple [.str "make", .str "all"], .tuple [.str "make", .str "standing"], .tuple [.str "start", .str "new"], .tuple [.str "start", .str "all"], .tuple [.str "start", .str "free"], .tuple [.str "label", .str "new"], .tuple [.str "label", .str "all"], .tuple [.str "label", .str "free"], .tuple [.str "tie", .str "new"], .tuple [.str "tie", .str "all"], .tuple [.str "tie", .str "free"], .tuple [.str "drop"]]
def isStepD : PyData → Bool
  | .tuple ds => ds.all (fun d => isTy (tyD d) "str") && STEPSD.any fun z => PyData.eqv z (.tuple ds)
  | _ => false
theorem step_is : ∀ d ∈ STEPSD, isStepD d = true ∧ SeqAt.shaped d = true ∧ imm d = true ∧ PyData.eqv d d = true := by
  intro d hd
  simp only [STEPSD, List.mem_cons, List.not_mem_nil, or_false] at hd
  rcases hd with rfl | rfl | rfl | rfl | rfl | rfl | rfl | rfl | rfl | rfl | rfl | rfl <;> decide +kernel
/-- a row of steps -/
structure Row (ds : List PyData) : Prop where
  st : ∀ d ∈ ds, d ∈ STEPSD
  len : ds.length ≤ 12
theorem imm_all : ∀ {ds : List PyData}, (∀ d ∈ ds, imm d = true) → immAll ds = true
  | [], _ => rfl
  | d :: ds, h => by
    simp only [immAll, Bool.and_eq_true]
    exact ⟨h d (by simp), imm_all (ds := ds) fun x hx => h x (List.mem_cons_of_mem d hx)⟩
theorem Row.imm {ds : List PyData} (r : Row ds) : imm (.tuple ds) = true := by
  show immAll ds = true
  exact imm_all fun d hd => (step_is d (r.st d hd)).2.2.1
theorem stepsd_shaped : SeqAt.shaped (.tuple STEPSD) = true := by decide +kernel
theorem canLay_all : ∀ {ds : List PyData}, (∀ d ∈ ds, SeqAt.shaped d = true) → PyData.canLayAll0 ds = true
  | [], _ => by simp [PyData.canLayAll0]
  | d :: ds, h => by
    have h1 := h d (by simp)
    simp only [SeqAt.shaped, Bool.and_eq_true] at h1
    simp [PyData.canLayAll0, h1.1, canLay_all (ds := ds) fun x hx => h x (List.mem_cons_of_mem d hx)]
theorem step_depth : ∀ d ∈ STEPSD, d.depth ≤ 1 := by
  intro d hd
  simp only [STEPSD, List.mem_cons, List.not_mem_nil, or_false] at hd
  rcases hd with rfl | rfl | rfl | rfl | rfl | rfl | rfl | rfl | rfl | rfl | rfl | rfl <;> decide +kernel
theorem depth_all {n : Nat} : ∀ {ds : List PyData}, (∀ d ∈ ds, d.depth ≤ n) → PyData.depthAll ds ≤ n
  | [], _ => by simp [PyData.depthAll]
  | d :: ds, h => by
    have h1 := h d (by simp)
    have h2 := depth_all (ds := ds) fun x hx => h x (List.mem_cons_of_mem d hx)
    simp only [PyData.depthAll]
    omega
theorem row_shaped {ds : List PyData} (h : ∀ d ∈ ds, d ∈ STEPSD) : SeqAt.shaped (.tuple ds) = true := by
  have h1 := depth_all fun d hd => step_depth d (h d hd)
  have h2 : PyData.depth (.tuple ds) ≤ 64 := by simp only [PyData.depth]; omega
  show (PyData.canLay0 (.tuple ds) && decide (PyData.depth (.tuple ds) ≤ 64)) = true
  rw [Bool.and_eq_true]
  exact ⟨by simp only [PyData.canLay0]; exact canLay_all fun d hd => (step_is d (h d hd)).2.1, decide_eq_true h2⟩
/-- a Script's fields -/
def kf (v : V) : List (Str × V) := putF "kept_steps" v []
theorem kf_get (v : V) : (kf v).lookup ("kept_steps" : Str) = some v := by
  unfold kf
  rw [lookup_putF, if_pos rfl]
theorem kf_no (v : V) {m : Str} (h : ¬ m = "kept_steps") : (kf v).lookup m = none := by
  unfold kf
  rw [lookup_putF, if_neg h]
  all_goals rfl
/-- a Script with the steps ds stands at a -/
def ScrAt (K : PySem.W.Frag) (C : Addr) (H : Hp) (a : Addr) (ds : List PyData) : Prop := ∃ dx v, H a = some (.ins C dx (kf v)) ∧ Dp K H v (.tuple ds)
theorem ScrAt.same {K : PySem.W.Frag} {C : Addr} {H H' : Hp} {a : Addr} {ds : List PyData} (s : Same H H') (h : ScrAt K C H a ds) : ScrAt K C H' a ds := by
  obtain ⟨dx, v, h1, h2⟩ := h
  exact ⟨dx, v, s _ _ h1, s.dp h2⟩
theorem ScrAt.but {K : PySem.W.Frag} {C p : Addr} {H H' : Hp} {a : Addr} {ds : List PyData} (s : But p H H') (n : a ≠ p) (r : Row ds) (h : ScrAt K C H a ds) : ScrAt K C H' a ds := by
  obtain ⟨dx, v, h1, h2⟩ := h
  exact ⟨dx, v, s.keep _ _ h1 n, s.dp r.imm h2⟩
theorem iteF' {A B : Prop} {c : Bool} (h : c = false) (hb : B) : if c = true then A else B := by
  rw [h]; exact iteF hb
theorem iteT' {A B : Prop} {c : Bool} (h : c = true) (hb : A) : if c = true then A else B := by
  rw [h]; exact iteT hb
theorem step_len : ∀ ds : List PyData, .tuple ds ∈ STEPSD → ds.length ≤ 20000 := by
  intro ds hd
  simp only [STEPSD, List.mem_cons, List.not_mem_nil, or_false, PyData.tuple.injEq] at hd
  rcases hd with rfl | rfl | rfl | rfl | rfl | rfl | rfl | rfl | rfl | rfl | rfl | rfl <;> decide
def spWhole (K : PySem.W.Frag) : Sp := fun vs H Q _ => ∃ (v : V) (t : String), vs = [v] ∧ TyX K H v (.type t) ∧ t ∈ T7 ∧ Q (.bl (t == "int")) H
def spIsStep (K : PySem.W.Frag) : Sp := fun vs H Q _ => ∃ v : V, vs = [v] ∧
  ((∃ d, Dp K H v d ∧ SeqAt.shaped d = true ∧ (∀ ds, d = .tuple ds → ds.length ≤ 20000) ∧ ∀ H', Same H H' → Q (.bl (isStepD d)) H') ∨ ∃ t, TyX K H v (.type t) ∧ t ∈ T7 ∧ t ≠ "tuple" ∧ Q (.bl false) H)
def spInit (K : PySem.W.Frag) (C : Addr) : Sp := fun vs H Q _ => ∃ (x dx : Addr) (v : V) (ds : List PyData), vs = [.ref x, v] ∧ H x = some (.ins C dx []) ∧ Dp K H v (.tuple ds) ∧ Row ds ∧
  ∀ H', H' x = some (.ins C dx (kf v)) → (∀ b o, H b = some o → b ≠ x → H' b = some o) → Q .non H'
def spSteps (C : Addr) : Sp := fun vs H Q _ => ∃ (a dx : Addr) (v : V), vs = [.ref a] ∧ H a = some (.ins C dx (kf v)) ∧ Q v H
def spLen (K : PySem.W.Frag) (C : Addr) : Sp := fun vs H Q _ => ∃ (a : Addr) (ds : List PyData), vs = [.ref a] ∧ ScrAt K C H a ds ∧ Q (.int ds.length) H
def spHas (K : PySem.W.Frag) (C : Addr) : Sp := fun vs H Q _ => ∃ (a : Addr) (ds : List PyData) (v : V) (t : String), vs = [.ref a, v] ∧ ScrAt K C H a ds ∧ TyX K H v (.type t) ∧ t ∈ T7 ∧
  (t ≠ "int" → Q (.bl false) H) ∧ ∀ i, v = .int i → Q (.bl (decide (0 ≤ i ∧ i < (ds.length : Int)))) H
/-- an index that is there -/
def spGet (K : PySem.W.Frag) (C : Addr) : Sp := fun vs H Q _ => ∃ (a : Addr) (ds : List PyData) (i : Nat) (d : PyData), vs = [.ref a, .int i] ∧ ScrAt K C H a ds ∧ ds[i]? = some d ∧ ∀ v, Dp K H v d → Q v H
def spIn (K : PySem.W.Frag) (C : Addr) : Sp := fun vs H Q _ => ∃ (a : Addr) (ds : List PyData) (v : V), vs = [.ref a, v] ∧ ScrAt K C H a ds ∧ (∀ d ∈ ds, d ∈ STEPSD) ∧
  ((∃ d, Dp K H v d ∧ SeqAt.shaped d = true ∧ (∀ ds, d = .tuple ds → ds.length ≤ 20000) ∧ ∀ H', Same H H' → Q (.bl (isStepD d && ds.any fun z => PyData.eqv z d)) H') ∨ ∃ t, TyX K H v (.type t) ∧ t ∈ T7 ∧ t ≠ "tuple" ∧ Q (.bl false) H)
section
variable {P : Program} {w : World} {K : PySem.W.Frag} {mg : Str → Option Value} {base : Heap}
theorem ok_is_whole (T : Tx K mg) : FnOk P w K mg base CX0 1 T.is_whole.a T.is_whole.fd ["thing"] (spWhole K) := by
  refine T.is_whole.F.ok sc_is_whole (fun vs H Q E h => by obtain ⟨v, t, rfl, _⟩ := h; rfl) (fun cdv A outer s H vs Q E hr h => ?_)
  obtain ⟨v, t, rfl, ty, ht, q⟩ := h
  refine ⟨_, (pss_one (ps_ret (pe_and (pe_callB (call_isDK K) (by rfl) T.b_isinstance (by decide +kernel) (pa_cons (pv 0) (pa_cons (pe_bltn (v := .ty "int") (by rfl) T.b_int (by decide +kernel) rfl) pa_nil))) (pe_one (pe_not (pe_callB (call_isDK K) (by rfl) T.b_isinstance (by decide +kernel) (pa_cons (pv 0) (pa_cons (pe_bltn (v := .ty "bool") (by rfl) T.b_bool (by decide +kernel) rfl) pa_nil)))))))), ?_⟩
  refine ⟨_, rfl, v, t, "int", rfl, ty, ht, by decide, _, rfl, iteB (fun c => ?_) (fun c => ?_)⟩
  · refine ⟨_, rfl, v, t, "bool", rfl, ty, ht, by decide, _, rfl, ?_⟩
    have e : (!isTy t "bool") = (t == "int") := by
      simp only [T7, List.mem_cons, List.not_mem_nil, or_false] at ht
      rcases ht with rfl | rfl | rfl | rfl | rfl | rfl | rfl <;> first | rfl | exact absurd c (by decide) | decide
    show Q (.bl (!isTy t "bool")) H
    rw [e]; exact q
  · have e : (t == "int") = false := by
      simp only [T7, List.mem_cons, List.not_mem_nil, or_false] at ht
      rcases ht with rfl | rfl | rfl | rfl | rfl | rfl | rfl <;> first | rfl | exact absurd c (by decide) | decide
    show Q (.bl false) H
    rw [← e]; exact q
theorem ok_is_step (T : Tx K mg) : FnOk P w K mg base CX0 1 T.is_step.a T.is_step.fd ["thing"] (spIsStep K) := by
  refine T.is_step.F.ok sc_is_step (fun vs H Q E h => by obtain ⟨v, rfl, _⟩ := h; rfl) (fun cdv A outer s H vs Q E hr h => ?_)
  obtain ⟨v, rfl, h⟩ := h
  refine ⟨_, (pss_one (ps_ret (pe_and (pe_callB (call_isDK K) (by rfl) T.b_isinstance (by decide +kernel) (pa_cons (pv 0) (pa_cons (pe_bltn (v := .ty "tuple") (by rfl) T.b_tuple (by decide +kernel) rfl) pa_nil))) (pe_and (pe_callB (cr_allK K rfl) (by rfl) T.b_all (by decide +kernel) (pa_cons (pe_lc (own := [("word", 1)]) (g := (gName 1)) (tt := tYes) rfl sc_is_step.nd (pi_tupK K (pv 0)) (blkOk_by (N := ["thing", "word"]) (sc := defScope s_is_step) (by decide +kernel)) (fun _ _ _ _ _ => pg_name (i := 1) sc_is_step.nd rfl (Or.inl rfl)) (fun _ _ _ _ _ => pts_nil) (fun _ _ _ _ _ => (pe_callB (call_isDK K) (by rfl) T.b_isinstance (by decide +kernel) (pa_cons (pv 1) (pa_cons (pe_bltn (v := .ty "str") (by rfl) T.b_str (by decide +kernel) rfl) pa_nil))))) pa_nil)) (pe_one (pe_cmpR (op_inTDK K (hu65 hr)) (pv 0) (pe_glob (v := .ref T.a_STEPS) rfl T.g_STEPS rfl) (by rfl))))))), ?_⟩
  rcases h with ⟨d, hd, sh, hl, q⟩ | ⟨t, ty, ht, hn, q⟩
  · refine ⟨_, rfl, v, tyD d, "tuple", rfl, hd.ty, tyD_mem d, by decide, _, rfl, iteB (fun c => ?_) (fun c => ?_)⟩
    · obtain ⟨ds, rfl⟩ : ∃ ds, d = .tuple ds := by
        cases d <;> first | exact ⟨_, rfl⟩ | (simp [tyD, isTy] at c)
      obtain ⟨a, xs, rfl, hx, hxs⟩ := hd.tup_inv
      have hlen := hxs.length
      have hl := hl ds rfl
      -- [isinstance(word, str) for word in thing]
      refine ⟨_, rfl, a, rfl, ⟨_, hx⟩, fun D nD => ?_⟩
      refine lc_tup (K := K) (a := a) (xs := xs) (fun i H' => Same H H' ∧ H' D = some (.lst ((ds.take i).map fun d => .bl (isTy (tyD d) "str")))) ⟨Same.new nD, by simp [upd_same]⟩ (fun i H' _ ⟨s, _⟩ => s.sqT hx) ?_ ?_
      · rintro i y H' hi ⟨s, hD⟩
        obtain ⟨dd, h1, h2⟩ := hxs.get' hi
        refine ⟨rfl, _, rfl, y, tyD dd, "str", rfl, (s.dp h2).ty, tyD_mem dd, by decide, _, hD, ?_, ?_⟩
        · exact Nat.lt_of_le_of_lt (m := 20000) (by rw [List.length_map, List.length_take]; omega) (by decide)
        · refine ⟨s.mut nD, ?_⟩
          rw [upd_same, List.take_add_one, h1]
          simp
      · rintro H' ⟨s, hD⟩
        rw [hlen, List.take_length] at hD
        refine ⟨D, ds.map fun d => isTy (tyD d) "str", rfl, SqL.of (by rw [hD, List.map_map]; rfl), _, rfl, iteB (fun c2 => ?_) (fun c2 => ?_)⟩
        · -- thing in STEPS
          refine ⟨_, rfl, .tuple ds, STEPSD, s.dp hd, T.d_STEPS _, sh, stepsd_shaped, ?_⟩
          have e : isStepD (.tuple ds) = STEPSD.any fun z => PyData.eqv z (.tuple ds) := by
            have : (ds.all fun d => isTy (tyD d) "str") = true := by simpa [List.all_map] using c2
            simp [isStepD, this]
          have := q H' s
          rw [e] at this; exact this
        · have e : isStepD (.tuple ds) = false := by
            have : (ds.all fun d => isTy (tyD d) "str") = false := by simpa [List.all_map] using c2
            simp [isStepD, this]
          have := q H' s
          rw [e] at this; exact this
    · have e : isStepD d = false := by cases d <;> first | rfl | (simp [tyD, isTy] at c)
      have := q H (Same.refl H)
      rw [e] at this; exact this
  · refine ⟨_, rfl, v, t, "tuple", rfl, ty, ht, by decide, _, rfl, iteB (fun c => ?_) (fun c => q)⟩
    exfalso
    simp [isTy] at c
    exact hn c
theorem ok_Script_init (T : Tx K mg) : FnOk P w K mg base CX0 3 T.Script_init.a T.Script_init.fd ["self", "steps"] (spInit K T.c_Script) := by
  have G_is_step := ok_is_step (P := P) (w := w) (base := base) T
  refine T.Script_init.F.ok sc_Script_init (fun vs H Q E h => by obtain ⟨x, dx, v, ds, rfl, _⟩ := h; rfl) (fun cdv A outer s H vs Q E hr h => ?_)
  obtain ⟨x, dx, v, ds, rfl, hx, hd, r, q⟩ := h
  obtain ⟨a, xs, rfl, hq, hxs⟩ := hd.tup_inv
  have hlen := hxs.length
  have hl := r.len
  refine ⟨_, (pss_cons (ps_if (pt_not (pt_val (pe_callB (call_isDK K) (by rfl) T.b_isinstance (by decide +kernel) (pa_cons (pv 1) (pa_cons (pe_bltn (v := .ty "tuple") (by rfl) T.b_tuple (by decide +kernel) rfl) pa_nil)))))
  (pss_one ps_never)
  pss_nil)
  (pss_cons (ps_for PassesOwn.never rfl (pi_enumT (by rfl) T.b_enumerate (pa_cons (pv 1) pa_nil)) (pg_tupK K rfl (pgs_cons (pg_name (i := 2) sc_Script_init.nd rfl (Or.inl rfl)) (pgs_cons (pg_name (i := 3) sc_Script_init.nd rfl (Or.inl rfl)) pgs_nil)))
  (pss_one (ps_if (PW.pt (pw_or (pt_cmpR op_ge (pv 2) (pe_glob (v := .int 12) rfl T.g_MOST_STEPS ⟨_, rfl⟩) (nomark _)) (pw_or1 (pt_not (pt_val (pe_call G_is_step (hr.mono (by first | decide | omega)) rfl T.is_step.g T.is_step.F.kp T.is_step.b .nil pass0 (pa_cons (pv 3) pa_nil)))))))
  (pss_one ps_never)
  pss_nil)))
  (pss_one (ps_fldK K (pv 0) (pv 1) rfl)))), ?_⟩
  refine ⟨_, rfl, .ref a, "tuple", "tuple", rfl, hd.ty, by decide, by decide, _, rfl, ?_⟩
  refine iteF ?_
  -- for index, step in enumerate(steps)
  refine ⟨_, rfl, a, xs, rfl, hq, for_enumT (K := K) (a := a) (xs := xs) (fun i σ H' => Same H H' ∧ ∃ v2 v3, σ = [some (.ref x), some (.ref a), v2, v3]) ⟨Same.refl H, none, none, rfl⟩ (fun i σ H' _ ⟨s, _⟩ => s.sqT hq) ?_ ?_⟩
  · rintro i y T0 σ H' hi ⟨s, v2, v3, rfl⟩ nT
    obtain ⟨dd, h1, h2⟩ := hxs.get' hi
    have hst := r.st dd (List.mem_of_getElem? h1)
    have s2 : Same H (upd H' T0 (.tup [.int (i : Nat), y])) := s.add nT
    refine ⟨T0, _, rfl, SqT.of upd_same, rfl, _, _, rfl, _, _, rfl, rfl, ?_⟩
    refine ⟨_, rfl, _, _, rfl, rfl, _, rfl, iteF' ?_ ?_⟩
    · simp only [decide_eq_false_iff_not]
      have := (List.getElem?_eq_some_iff.mp h1).1
      omega
    · refine ⟨_, rfl, y, rfl, .inl ⟨dd, s2.dp h2, (step_is dd hst).2.1, ?_, fun H2 s3 => ⟨_, rfl, ?_⟩⟩⟩
      · rintro ds' rfl
        have := step_depth _ hst
        exact step_len _ hst
      · rw [(step_is dd hst).1]
        exact ⟨s2.trans s3, _, _, rfl⟩
  · rintro σ H' ⟨s, v2, v3, rfl⟩
    refine ⟨_, rfl, _, rfl, x, T.c_Script, dx, [], rfl, s _ _ hx, T.cl_Script, T.na_Script_kept_steps, by decide, ?_⟩
    exact q _ upd_same fun b o e n => by rw [upd_ne n]; exact s _ _ e
theorem ok_Script_steps (T : Tx K mg) : FnOk P w K mg base CX0 1 T.Script_steps.a T.Script_steps.fd ["self"] (spSteps T.c_Script) := by
  refine T.Script_steps.F.ok sc_Script_steps (fun vs H Q E h => by obtain ⟨a, dx, v, rfl, _⟩ := h; rfl) (fun cdv A outer s H vs Q E hr h => ?_)
  obtain ⟨a, dx, v, rfl, hx, q⟩ := h
  refine ⟨_, (pss_one (ps_ret (pe_fldK K (pv 0) rfl))), ?_⟩
  exact ⟨_, rfl, a, T.c_Script, dx, _, _, rfl, hx, T.cl_Script, T.na_Script_kept_steps, kf_get v, q⟩
theorem ok_Script_len (T : Tx K mg) : FnOk P w K mg base CX0 1 T.Script_len.a T.Script_len.fd ["self"] (spLen K T.c_Script) := by
  refine T.Script_len.F.ok sc_Script_len (fun vs H Q E h => by obtain ⟨a, ds, rfl, _⟩ := h; rfl) (fun cdv A outer s H vs Q E hr h => ?_)
  obtain ⟨a, ds, rfl, ⟨dx, v, hx, hd⟩, q⟩ := h
  obtain ⟨b, xs, rfl, hq, hxs⟩ := hd.tup_inv
  refine ⟨_, (pss_one (ps_ret (pe_callB (call_lenK K) (by rfl) T.b_len (by decide +kernel) (pa_cons (pe_fldK K (pv 0) rfl) pa_nil)))), ?_⟩
  refine ⟨_, rfl, a, T.c_Script, dx, _, _, rfl, hx, T.cl_Script, T.na_Script_kept_steps, kf_get _, _, xs.length, rfl, .inr ⟨xs, hq, rfl⟩, ?_⟩
  rw [hxs.length]; exact q
theorem ok_Script_has (T : Tx K mg) : FnOk P w K mg base CX0 2 T.Script_has.a T.Script_has.fd ["self", "index"] (spHas K T.c_Script) := by
  have G_is_whole := ok_is_whole (P := P) (w := w) (base := base) T
  refine T.Script_has.F.ok sc_Script_has (fun vs H Q E h => by obtain ⟨a, ds, v, t, rfl, _⟩ := h; rfl) (fun cdv A outer s H vs Q E hr h => ?_)
  obtain ⟨a, ds, v, t, rfl, ⟨dx, u, hx, hd⟩, ty, ht, q1, q2⟩ := h
  obtain ⟨b, xs, rfl, hq, hxs⟩ := hd.tup_inv
  refine ⟨_, (pss_one (ps_ret (pe_and (pe_call G_is_whole (hr.mono (by first | decide | omega)) rfl T.is_whole.g T.is_whole.F.kp T.is_whole.b .nil pass0 (pa_cons (pv 1) pa_nil)) (pe_one (pe_chain op_le op_lt pe_int (pv 1) (pe_callB (call_lenK K) (by rfl) T.b_len (by decide +kernel) (pa_cons (pe_fldK K (pv 0) rfl) pa_nil))))))), ?_⟩
  refine ⟨_, rfl, v, t, rfl, ty, ht, _, rfl, iteB (fun c => ?_) (fun c => q1 (by simpa using c))⟩
  have c : t = "int" := by simpa using c
  subst c
  obtain ⟨i, rfl⟩ := ty.int_inv
  have q2 := q2 i rfl
  refine ⟨_, rfl, _, _, rfl, rfl, _, rfl, iteB (fun c => ?_) (fun c => ?_)⟩
  · have c := of_decide_eq_true c
    refine ⟨_, rfl, a, T.c_Script, dx, _, _, rfl, hx, T.cl_Script, T.na_Script_kept_steps, kf_get _, _, xs.length, rfl, .inr ⟨xs, hq, rfl⟩, _, _, rfl, rfl, ?_⟩
    have e : decide (i < (xs.length : Int)) = decide (0 ≤ i ∧ i < (ds.length : Int)) := by
      rw [hxs.length]; simp [c]
    show Q (.bl (decide (i < (xs.length : Int)))) H
    rw [e]; exact q2
  · have c := of_decide_eq_false c
    have e : decide (0 ≤ i ∧ i < (ds.length : Int)) = false := by simp [c]
    rw [e] at q2; exact q2
end
end Y

namespace Y
open PySem L2
def spAdd (K : PySem.W.Frag) (C : Addr) : Sp := fun vs H Q _ => ∃ (a b : Addr) (ds es : List PyData), vs = [.ref a, .ref b] ∧ ScrAt K C H a ds ∧ ScrAt K C H b es ∧ Row (ds ++ es) ∧ ∀ c H', H c = none → Same H H' → ScrAt K C H' c (ds ++ es) → Q (.ref c) H'
def spWithout (K : PySem.W.Frag) (C : Addr) : Sp := fun vs H Q _ => ∃ (a : Addr) (ds : List PyData) (i : Nat), vs = [.ref a, .int i] ∧ ScrAt K C H a ds ∧ Row ds ∧ i < ds.length ∧ ∀ c H', H c = none → Same H H' → ScrAt K C H' c (ds.take i ++ ds.drop (i + 1)) → Q (.ref c) H'
section
variable {P : Program} {w : World} {K : PySem.W.Frag} {mg : Str → Option Value} {base : Heap}
/-- a new script -/
theorem scr_made {C x dx : Addr} {H H' : Hp} {v : V} {ds : List PyData} (nx : H x = none) (ndx : H dx = none) (hv : Dp K H v (.tuple ds)) (h : H' x = some (.ins C dx (kf v)))
    (k : ∀ b o, (upd (upd H dx (.own x)) x (.ins C dx [])) b = some o → b ≠ x → H' b = some o) : Same H H' ∧ ScrAt K C H' x ds := by
  have s := Same.made nx ndx k
  exact ⟨s, dx, v, h, s.dp hv⟩
theorem same_ins {C x dx : Addr} {H : Hp} {fs : List (Str × V)} (nx : H x = none) (ndx : H dx = none) : Same H (upd (upd H dx (.own x)) x (.ins C dx fs)) := fun b o e => by
  rw [upd_ne (ne_of_none e nx), upd_ne (ne_of_none e ndx)]; exact e
end
/-! ### the text of a script -/
def strD : PyData → Str
  | .str s => s
  | _ => ""
def wordsD : PyData → List Str
  | .tuple ds => ds.map strD
  | _ => []
def stepText (d : PyData) : Str := Txt.join " " (wordsD d)
def rowText (ds : List PyData) : Str := if ds = [] then "nothing" else Txt.join ", " (ds.map stepText)
theorem step_words : ∀ d ∈ STEPSD, d = .tuple ((wordsD d).map .str) ∧ ((wordsD d).map (·.length)).sum + (wordsD d).length * 1 ≤ 30 ∧ (stepText d).length ≤ 30 := by
  intro d hd
  simp only [STEPSD, List.mem_cons, List.not_mem_nil, or_false] at hd
  rcases hd with rfl | rfl | rfl | rfl | rfl | rfl | rfl | rfl | rfl | rfl | rfl | rfl <;> (refine ⟨rfl, ?_, ?_⟩ <;> decide +kernel)
theorem dp_strs {K : PySem.W.Frag} {H : Hp} : ∀ {xs : List V} {ys : List Str}, DpAll K H xs (ys.map .str) → xs = ys.map V.str
  | _, [], .nil => rfl
  | _, y :: ys, .cons h t => by rw [h.str_inv, dp_strs t]; rfl
theorem sum_le {n : Nat} : ∀ {ys : List Str}, (∀ y ∈ ys, y.length ≤ n) → (ys.map (·.length)).sum ≤ n * ys.length
  | [], _ => by simp
  | y :: ys, h => by
    have h1 := h y (by simp)
    have h2 := sum_le (ys := ys) fun x hx => h x (List.mem_cons_of_mem y hx)
    rw [List.map_cons, List.sum_cons, List.length_cons, Nat.mul_add]
    omega
/-- " ".join(step) -/
theorem step_join {K : PySem.W.Frag} {H : Hp} {Q : VK} {v : V} {d : PyData} (hd : d ∈ STEPSD) (hv : Dp K H v d) (q : Q (.str (stepText d)) H) : rJoin K (.str " ") [v] H Q := by
  obtain ⟨e, hl, _⟩ := step_words d hd
  rw [e] at hv
  obtain ⟨a, xs, rfl, ha, hxs⟩ := hv.tup_inv
  rw [dp_strs hxs] at ha
  exact ⟨_, a, wordsD d, rfl, rfl, .inr ha, Nat.le_trans hl (by decide), q⟩
end Y

/-! # scripts as pure values -/
namespace Y
open PySem L2
local macro_rules | `(tactic| walk_at "a") => `(tactic| repeat (first
  | (with_reducible apply ev_int) | (with_reducible apply ev_str) | (with_reducible apply ev_bl) | (with_reducible apply ev_non) | (with_reducible apply ev_ty)
  | ((with_reducible apply ev_var); · rfl)
  | (with_reducible apply ev_op) | (with_reducible apply ev_un) | (with_reducible apply evs_nil) | (with_reducible apply evs_cons) | (with_reducible apply ev_cb) | (with_reducible apply ev_if)
  | (with_reducible apply et_test) | (with_reducible apply et_B) | (with_reducible apply et_and) | (with_reducible apply et_or) | (with_reducible apply et_not)
  | (with_reducible apply ex_seq) | (with_reducible apply ex_name) | (with_reducible apply ex_to) | (with_reducible apply ex_ret) | (with_reducible apply ex_if) | (with_reducible apply ex_drop) | (with_reducible apply ex_retN) | (with_reducible apply ex_next)
  | (with_reducible apply ex_par) | (with_reducible apply ex_par3) | (with_reducible apply eg_sub) | (with_reducible apply eg_name)
  | (with_reducible apply o_int) | (with_reducible apply o_bl) | (with_reducible apply o1_neg)
  | (with_reducible apply ev_andV) | (with_reducible apply ev_orV) | (with_reducible apply ev_notV)
  | (with_reducible apply ev_sl) | (with_reducible apply eo_part) | (with_reducible apply eo_no) | (with_reducible apply ev_bm) | (with_reducible apply ev_bm0)
  | (with_reducible apply ite_f) | (with_reducible apply ite_t) | (with_reducible apply ev_tupD) | (with_reducible apply ev_chain)
  | ((with_reducible apply o_ixL); (· rfl); (· rfl)) | ((with_reducible apply o_ixT); (· rfl); (· rfl))
  | ((with_reducible apply o_eq); (· rfl); (· rfl); (· rfl)) | ((with_reducible apply o_ne); (· rfl); (· rfl); (· rfl))
  | (with_reducible apply o_isN) | (with_reducible apply o_notN)
  | (with_reducible apply on_int) | (with_reducible apply on_intB) | (with_reducible apply on_max) | (with_reducible apply on_min) | (with_reducible apply on_abs)
  | ((with_reducible apply on_lenL); (· rfl)) | ((with_reducible apply on_lenT); (· rfl)) | ((with_reducible apply on_isD); (· rfl); (· decide))
  | ((with_reducible apply isSub); (· rfl); (· rfl)) | (with_reducible apply isB) | (with_reducible apply isI) | (with_reducible apply is2) | (with_reducible apply is3) | (with_reducible apply isI1) | (with_reducible apply isI2) | (with_reducible apply isT) | (with_reducible apply isL) | (with_reducible apply isScr) | ((with_reducible apply isDs); (· rfl); (· rfl))
  | ((with_reducible apply o_inT); (· rfl); (· rfl); (· decide +kernel); (· decide +kernel)) | ((with_reducible apply o_eqD); (· rfl); (· rfl); (· decide +kernel); (· decide +kernel))
  | ((with_reducible apply iteT'); · decide +kernel) | ((with_reducible apply iteF'); · decide +kernel)))
section
variable {K : PySem.W.Frag} {C : Addr} {F F' H H' : Hp} {as as' : Own} {cs cs' cs1 : List Cell} {E : AEnv} {k : AV → List Cell → Prop} {x y : AV} {te : TE} {tas : TA} {X : XK}
theorem Row.immA {ds : List PyData} (r : Row ds) : immAll ds = true := imm_all fun d hd => (step_is d (r.st d hd)).2.2.1
theorem ev_kept (c : Cls K C) (n : NoAttr K C "kept_steps") (h : Ev K C E cs te fun x cs1 => IsScr x fun ds => k (.d (.tuple ds)) cs1) : Ev K C E cs (tFld K te "kept_steps") k := fun F as H σ Q w e z => by
  refine h F as H σ _ w e fun x cs1 v F1 as1 H1 ⟨ds, hx, h1⟩ s1 w1 r1 => ?_
  subst hx
  cases r1 with | scr hs =>
  obtain ⟨dx, u, h2, h3⟩ := hs
  exact ⟨_, C, dx, _, u, rfl, w1.fro _ _ h2, c, n, kf_get u, z _ cs1 u F1 as1 H1 h1 s1 w1 (.d h3)⟩
/-- Script(steps) -/
theorem ev_makeScr (h : Evs K C E cs tas fun xs cs1 => ∃ ds, xs = [.d (.tuple ds)] ∧ Row ds ∧ k (.scr ds) cs1) : Ev K C E cs (tMake C (spInit K C) [] X tas) k := fun F as H σ Q w e z => by
  refine h F as H σ _ w e fun xs cs1 vs F1 as1 H1 ⟨ds, hx, hr, h1⟩ s1 w1 r1 x dx nx ndx nex => ?_
  subst hx
  cases r1 with | cons r1 r2 =>
  cases r2
  cases r1 with | d r1 =>
  refine ⟨x, dx, _, ds, rfl, upd_same, (same_ins nx ndx).dp (w1.fro.dp r1), hr, fun H2 h2 k2 => ⟨rfl, ?_⟩⟩
  obtain ⟨s2, sc⟩ := scr_made nx ndx (w1.fro.dp r1) h2 k2
  exact (Kt.later z s1).newS w1 s2 nx sc hr.immA h1
/-- a method of a script that gives a new one -/
theorem ev_scrM {m : Str} {sp : Sp} {te : TE} (P : List PyData → List AV → List Cell → List PyData → Prop) (hm : m ≠ "kept_steps")
    (hsp : ∀ F as H cs a ds xs vs rs (Q : VK), Wd K C F as cs H → ScrAt K C H a ds → ARs K C F as xs vs → P ds xs cs rs → (∀ c H', H c = none → Same H H' → ScrAt K C H' c rs → Q (.ref c) H') → sp (.ref a :: vs) H Q X)
    (h : Ev K C E cs te fun x cs1 => IsScr x fun ds => Evs K C E cs1 tas fun xs cs2 => ∃ rs, P ds xs cs2 rs ∧ Row rs ∧ k (.scr rs) cs2) : Ev K C E cs (tMeth C m sp [] X te tas) k := fun F as H σ Q w e z => by
  refine h F as H σ _ w e fun x cs1 v F1 as1 H1 ⟨ds, hx, h1⟩ s1 w1 r1 => ?_
  subst hx
  cases r1 with | scr hs =>
  obtain ⟨dx, u, h2, h3⟩ := hs
  refine ⟨_, dx, _, rfl, w1.fro _ _ h2, kf_no _ hm, ?_⟩
  refine h1 F1 as1 H1 σ _ w1 (e.mono s1.f s1.pre) fun xs cs2 vs F2 as2 H2 ⟨rs, hp, hr, hk⟩ s2 w2 r2 => ?_
  rw [List.append_nil]
  refine hsp F2 as2 H2 cs2 _ ds xs vs rs Q w2 ⟨dx, u, w2.fro _ _ (s2.f _ _ h2), w2.fro.dp (s2.f.dp h3)⟩ r2 hp fun c H' nc s sc => ?_
  exact (Kt.later z (s1.tr s2)).newS w2 s nc sc hr.immA hk
theorem ev_without {te : TE} {m : Str} (hm : m ≠ "kept_steps") (h : Ev K C E cs te fun x cs1 => IsScr x fun ds => Evs K C E cs1 tas fun xs cs2 => ∃ i : Nat, xs = [.d (.int i)] ∧ Row ds ∧ i < ds.length ∧ k (.scr (ds.take i ++ ds.drop (i + 1))) cs2) : Ev K C E cs (tMeth C m (spWithout K C) [] X te tas) k := by
  refine ev_scrM (fun ds xs _ rs => ∃ i : Nat, xs = [.d (.int i)] ∧ Row ds ∧ i < ds.length ∧ rs = ds.take i ++ ds.drop (i + 1)) hm (fun F as H cs a ds xs vs rs Q w hs r hp q => ?_) (fun F as H σ Q w e z => h F as H σ Q w e fun x cs1 v F' as' H' ⟨ds, hx, hE⟩ => z x cs1 v F' as' H' ⟨ds, hx, fun F as H σ Q w e z => hE F as H σ Q w e fun xs cs2 vs F' as' H' ⟨i, h1, h2, h3, h4⟩ => z xs cs2 vs F' as' H' ⟨_, ⟨i, h1, h2, h3, rfl⟩, ⟨fun d hd => ?_, ?_⟩, h4⟩⟩)
  · obtain ⟨i, rfl, hr, hi, rfl⟩ := hp
    cases r with | cons r1 r2 =>
    cases r2
    exact ⟨a, ds, i, by rw [r1.int], hs, hr, hi, q⟩
  · rcases List.mem_append.mp hd with hd | hd
    · exact h2.st d (List.mem_of_mem_take hd)
    · exact h2.st d (List.mem_of_mem_drop hd)
  · have := h2.len
    rw [List.length_append, List.length_take, List.length_drop]; omega
theorem o_addScr {ds es : List PyData} (hr : Row (ds ++ es)) (h : k (.scr (ds ++ es)) cs) : O2 K C (rAddO C (spAdd K C) X) (.scr ds) (.scr es) cs k := fun F as H v u Q w r1 r2 q => by
  cases r1 with | scr h1 =>
  cases r2 with | scr h2 =>
  obtain ⟨dx, v1, h3, h4⟩ := h1
  obtain ⟨dy, v2, h5, h6⟩ := h2
  refine ⟨_, dx, _, _, dy, _, rfl, rfl, w.fro _ _ h3, w.fro _ _ h5, _, _, ds, es, rfl, ⟨dx, v1, w.fro _ _ h3, w.fro.dp h4⟩, ⟨dy, v2, w.fro _ _ h5, w.fro.dp h6⟩, hr, fun c H' nc s sc => ⟨⟨_, rfl⟩, ?_⟩⟩
  exact q.newS w s nc sc hr.immA h
def ApWhole : ASp := fun xs cs k => ∃ x t, xs = [x] ∧ tyA x cs = some t ∧ k (.d (.bool (t == "int"))) cs
def ApIsStep : ASp := fun xs cs k => ∃ x d, xs = [x] ∧ datOf x cs = some d ∧ SeqAt.shaped d = true ∧ (∀ ds, d = .tuple ds → ds.length ≤ 20000) ∧ k (.d (.bool (isStepD d))) cs
/-- the callee's world, read as its own -/
theorem spA_kt {A : ASp} {vs : List V} {H : Hp} {Q : VK} {X : XK} (h : spA K C A vs H Q X) : ∃ F as cs xs k, Wd K C F as cs H ∧ ARs K C F as xs vs ∧ A xs cs k ∧ Kt K C F as H k Q := by
  obtain ⟨F, as, cs, xs, k, h1, h2, h3, h4⟩ := h
  exact ⟨F, as, cs, xs, k, h1, h2, h3, fun z cs' w F' as' H' a b c d => h4 z cs' w F' as' H' a b c d⟩
end
def ApWithStep : ASp := fun xs cs k => ∃ (ds : List PyData) (d : PyData) (i : Nat), xs = [.scr ds, .d (.int i), .d d] ∧ cs = [] ∧ Row ds ∧ i ≤ ds.length ∧ ds.length < 12 ∧ d ∈ STEPSD ∧ k (.scr (ds.take i ++ [d] ++ ds.drop i)) []
theorem ev_whole {K : PySem.W.Frag} {C : Addr} {E : AEnv} {cs : List Cell} {tas : TA} {k : AV → List Cell → Prop} {X : XK} (h : Evs K C E cs tas fun xs cs1 => ∃ d, xs = [.d d] ∧ k (.d (.bool (tyD d == "int"))) cs1) : Ev K C E cs (tCall (spA K C ApWhole) [] X tas) k := ev_callD fun F as H σ Q w e z => h F as H σ Q w e fun xs cs1 v F' as' H' ⟨d, hx, hk⟩ => z xs cs1 v F' as' H' ⟨[d], by rw [hx]; rfl, _, tyD d, rfl, rfl, by
  show k _ (putC cs1 [] [])
  simp only [putC, List.append_nil]; exact hk⟩
theorem ev_isStep {K : PySem.W.Frag} {C : Addr} {E : AEnv} {cs : List Cell} {tas : TA} {k : AV → List Cell → Prop} {X : XK} (h : Evs K C E cs tas fun xs cs1 => ∃ d, xs = [.d d] ∧ SeqAt.shaped d = true ∧ (∀ ds, d = .tuple ds → ds.length ≤ 20000) ∧ k (.d (.bool (isStepD d))) cs1) : Ev K C E cs (tCall (spA K C ApIsStep) [] X tas) k := ev_callD fun F as H σ Q w e z => h F as H σ Q w e fun xs cs1 v F' as' H' ⟨d, hx, hs, hl, hk⟩ => z xs cs1 v F' as' H' ⟨[d], by rw [hx]; rfl, _, d, rfl, rfl, hs, hl, by
  show k _ (putC cs1 [] [])
  simp only [putC, List.append_nil]; exact hk⟩
section
variable {P : Program} {w : World} {K : PySem.W.Frag} {mg : Str → Option Value} {base : Heap}
theorem oa_whole (T : Tx K mg) (C : Addr) : FnOk P w K mg base CX0 1 T.is_whole.a T.is_whole.fd ["thing"] (spA K C ApWhole) := (ok_is_whole T).imp fun vs H Q E h => by
  obtain ⟨F, as, cs, xs, k, wd, ar, ⟨x, t, rfl, ht, hk⟩, q⟩ := spA_kt h
  cases ar with | cons r1 r2 =>
  cases r2
  obtain ⟨h1, h2⟩ := tyA_at ht wd r1
  exact ⟨_, t, rfl, h1, h2, q.now hk wd (.d (.bl _))⟩
theorem oa_is_step (T : Tx K mg) (C : Addr) : FnOk P w K mg base CX0 1 T.is_step.a T.is_step.fd ["thing"] (spA K C ApIsStep) := (ok_is_step T).imp fun vs H Q E h => by
  obtain ⟨F, as, cs, xs, k, wd, ar, ⟨x, d, rfl, hd, hs, hl, hk⟩, q⟩ := spA_kt h
  cases ar with | cons r1 r2 =>
  cases r2
  exact ⟨_, rfl, .inl ⟨d, datOf_at hd wd r1, hs, hl, fun H' s => q.same wd s hk (.d (.bl _))⟩⟩
end
end Y

namespace Y
open PySem L2
/-- same data, to a depth -/
def okS : Nat → PyData → Bool
  | 0, _ => false
  | _, .str _ => true
  | _, .int _ => true
  | _, .bool _ => true
  | n + 1, .list ds => decide (ds.length ≤ 1000) && ds.all (okS n)
  | n + 1, .tuple ds => decide (ds.length ≤ 1000) && ds.all (okS n)
  | _, _ => false
def spSame (K : PySem.W.Frag) (n : Nat) : Sp := fun vs H Q _ => ∃ (x y : V) (d : PyData), vs = [x, y] ∧ Dp K H x d ∧ Dp K H y d ∧ okS n d = true ∧ ∀ H', Same H H' → Q (.bl true) H'
theorem eqv_int (i : Int) : PyData.eqv (.int i) (.int i) = true := by simp [PyData.eqv]
theorem eqv_str (i : Str) : PyData.eqv (.str i) (.str i) = true := by simp [PyData.eqv]
theorem eqv_bool (i : Bool) : PyData.eqv (.bool i) (.bool i) = true := by simp [PyData.eqv]
theorem shaped_int (i : Int) : SeqAt.shaped (.int i) = true := by simp [SeqAt.shaped, PyData.canLay0, PyData.depth]
theorem shaped_bool (i : Bool) : SeqAt.shaped (.bool i) = true := by simp [SeqAt.shaped, PyData.canLay0, PyData.depth]
theorem fn_false {P : Program} {w : World} {K : PySem.W.Frag} {mg : Str → Option Value} {base : Heap} {k : Nat} {f : Addr} {fd : FuncData} {ps : List Str} {sp : Sp} (h : ∀ vs H Q E, ¬ sp vs H Q E) : FnOk P w K mg base CX0 k f fd ps sp :=
  ⟨fun _ _ _ _ z => (h _ _ _ _ z).elim, fun _ _ _ _ _ _ _ _ _ _ _ _ _ z => (h _ _ _ _ z).elim⟩
section
variable {P : Program} {w : World} {K : PySem.W.Frag} {mg : Str → Option Value} {base : Heap}
theorem ok_same (T : Tx K mg) : ∀ n : Nat, FnOk P w K mg base CX0 (n + 1) T.same.a T.same.fd ["actual", "expected"] (spSame K n) := by
  intro n
  induction n with
  | zero => exact fn_false fun vs H Q E ⟨_, _, d, _, _, _, hd, _⟩ => by simp [okS] at hd
  | succ n ih =>
    have G_same := ih
    refine T.same.F.ok sc_same (fun vs H Q E h => by obtain ⟨x, y, d, rfl, _⟩ := h; rfl) (fun cdv A outer s H vs Q E hr h => ?_)
    obtain ⟨x, y, d, rfl, hx, hy, hd, q⟩ := h
    refine ⟨_, (pss_cons (ps_if (pt_val (pe_callB (call_isTDK K) (by rfl) T.b_isinstance (by decide +kernel) (pa_cons (pv 1) (pa_cons (pe_tup (pa_cons (pe_bltn (v := .ty "list") (by rfl) T.b_list (by decide +kernel) rfl) (pa_cons (pe_bltn (v := .ty "tuple") (by rfl) T.b_tuple (by decide +kernel) rfl) pa_nil))) pa_nil))))
  (pss_cons (ps_if (pt_cmpR op_ne (pe_callB (call_isDK K) (by rfl) T.b_isinstance (by decide +kernel) (pa_cons (pv 0) (pa_cons (pe_bltn (v := .ty "list") (by rfl) T.b_list (by decide +kernel) rfl) pa_nil))) (pe_callB (call_isDK K) (by rfl) T.b_isinstance (by decide +kernel) (pa_cons (pv 1) (pa_cons (pe_bltn (v := .ty "list") (by rfl) T.b_list (by decide +kernel) rfl) pa_nil))) (nomark _))
  (pss_one (ps_ret pe_bl))
  pss_nil)
  (pss_cons (ps_if (PW.pt (pw_or (pt_cmpR op_ne (pe_callB (call_isDK K) (by rfl) T.b_isinstance (by decide +kernel) (pa_cons (pv 0) (pa_cons (pe_bltn (v := .ty "tuple") (by rfl) T.b_tuple (by decide +kernel) rfl) pa_nil))) (pe_callB (call_isDK K) (by rfl) T.b_isinstance (by decide +kernel) (pa_cons (pv 1) (pa_cons (pe_bltn (v := .ty "tuple") (by rfl) T.b_tuple (by decide +kernel) rfl) pa_nil))) (nomark _)) (pw_or1 (pt_cmpR op_ne (pe_callB (call_lenK K) (by rfl) T.b_len (by decide +kernel) (pa_cons (pv 0) pa_nil)) (pe_callB (call_lenK K) (by rfl) T.b_len (by decide +kernel) (pa_cons (pv 1) pa_nil)) (nomark _)))))
  (pss_one (ps_ret pe_bl))
  pss_nil)
  (pss_cons (ps_for PassesOwn.never rfl (pi_range1 (by rfl) T.b_range (pa_cons (pe_callB (call_lenK K) (by rfl) T.b_len (by decide +kernel) (pa_cons (pv 1) pa_nil)) pa_nil)) (pg_name (i := 2) sc_same.nd rfl (Or.inl rfl))
  (pss_one (ps_if (pt_not (pt_val (pe_call G_same (hr.mono (by first | decide | omega)) rfl T.same.g T.same.F.kp T.same.b .nil pass0 (pa_cons (pe_ix (ix_seqK K) (pv 0) (pv 2) (fun _ _ => rfl)) (pa_cons (pe_ix (ix_seqK K) (pv 1) (pv 2) (fun _ _ => rfl)) pa_nil)))))
  (pss_one (ps_ret pe_bl))
  pss_nil)))
  (pss_one (ps_ret pe_bl)))))
  pss_nil)
  (pss_cons (ps_if (pt_val (pe_callB (call_isDK K) (by rfl) T.b_isinstance (by decide +kernel) (pa_cons (pv 1) (pa_cons (pe_bltn (v := .ty "str") (by rfl) T.b_str (by decide +kernel) rfl) pa_nil))))
  (pss_one (ps_ret (pe_and (pe_callB (call_isDK K) (by rfl) T.b_isinstance (by decide +kernel) (pa_cons (pv 0) (pa_cons (pe_bltn (v := .ty "str") (by rfl) T.b_str (by decide +kernel) rfl) pa_nil))) (pe_one (pe_cmpR (op_eqAK K (hu65 hr)) (pv 0) (pv 1) (nomark _))))))
  pss_nil)
  (pss_cons (ps_if (pt_val (pe_callB (call_isDK K) (by rfl) T.b_isinstance (by decide +kernel) (pa_cons (pv 1) (pa_cons (pe_bltn (v := .ty "bool") (by rfl) T.b_bool (by decide +kernel) rfl) pa_nil))))
  (pss_one (ps_ret (pe_and (pe_callB (call_isDK K) (by rfl) T.b_isinstance (by decide +kernel) (pa_cons (pv 0) (pa_cons (pe_bltn (v := .ty "bool") (by rfl) T.b_bool (by decide +kernel) rfl) pa_nil))) (pe_one (pe_cmpR (op_eqAK K (hu65 hr)) (pv 0) (pv 1) (nomark _))))))
  pss_nil)
  (pss_one (ps_ret (pe_and (pe_callB (call_isDK K) (by rfl) T.b_isinstance (by decide +kernel) (pa_cons (pv 0) (pa_cons (pe_bltn (v := .ty "int") (by rfl) T.b_int (by decide +kernel) rfl) pa_nil))) (pe_and (pe_not (pe_callB (call_isDK K) (by rfl) T.b_isinstance (by decide +kernel) (pa_cons (pv 0) (pa_cons (pe_bltn (v := .ty "bool") (by rfl) T.b_bool (by decide +kernel) rfl) pa_nil)))) (pe_one (pe_cmpR (op_eqAK K (hu65 hr)) (pv 0) (pv 1) (nomark _)))))))))), ?_⟩
    refine ⟨_, rfl, by show 2 ≤ sizeLine; decide, fun tp np => ⟨y, tp, ["list", "tuple"], tyD d, rfl, upd_same, ((Same.new np).dp hy).ty, tyD_mem d, by decide, _, rfl, ?_⟩⟩
    have s1 : Same H (upd H tp (.tup [.ty "list", .ty "tuple"])) := Same.new np
    generalize hH : upd H tp (.tup [.ty "list", .ty "tuple"]) = H1 at s1
    have e1 : upd H tp (HO.tup (List.map V.ty ["list", "tuple"])) = H1 := hH
    clear hH e1
    replace hx := s1.dp hx
    replace hy := s1.dp hy
    replace q : ∀ H', Same H1 H' → Q (.bl true) H' := fun H' s2 => q H' (s1.trans s2)
    have scalar : ∀ c : String, c ∈ ["bool", "int", "str", "list", "tuple", "dict"] → True := fun _ _ => trivial
    -- a list or a tuple
    by_cases hseq : ∃ ds, d = .list ds ∨ d = .tuple ds
    · obtain ⟨ds, hds⟩ := hseq
      have hok : ds.length ≤ 1000 ∧ ∀ e ∈ ds, okS n e = true := by
        rcases hds with rfl | rfl <;> (simp only [okS, Bool.and_eq_true, decide_eq_true_eq, List.all_eq_true] at hd; exact hd)
      have c : ["list", "tuple"].any (isTy (tyD d)) = true := by rcases hds with rfl | rfl <;> rfl
      refine iteT' c ?_
      refine ⟨_, rfl, x, tyD d, "list", rfl, hx.ty, tyD_mem d, by decide, _, rfl, y, tyD d, "list", rfl, hy.ty, tyD_mem d, by decide, rfl, _, rfl, iteF' (by simp) ?_⟩
      refine ⟨_, rfl, x, tyD d, "tuple", rfl, hx.ty, tyD_mem d, by decide, _, rfl, y, tyD d, "tuple", rfl, hy.ty, tyD_mem d, by decide, rfl, _, rfl, iteF' (by simp) ?_⟩
      refine ⟨_, rfl, x, ds.length, rfl, hx.len hds, _, rfl, y, ds.length, rfl, hy.len hds, rfl, _, rfl, iteF' (by simp) ?_⟩
      refine ⟨_, rfl, y, ds.length, rfl, hy.len hds, _, rfl, by omega, by omega, for_range (n := ((ds.length : Nat) : Int).toNat) (fun i σ H' => ∃ v, σ = [some x, some y, v] ∧ Same H1 H') ⟨none, rfl, Same.refl _⟩ ?_ ?_⟩
      · rintro i σ H' hi ⟨v, rfl, s2⟩
        have hi : i < ds.length := by omega
        have e0 : (0 : Int) + (i : Int) = (i : Int) := by omega
        refine ⟨_, rfl, _, rfl, ?_⟩
        show rIx K x (.int (0 + (i : Int))) H' _
        rw [e0]
        refine Dp.ix (s2.dp hx) hds (List.getElem?_eq_getElem hi) fun u hu => ⟨_, rfl, _, rfl, ?_⟩
        refine Dp.ix (s2.dp hy) hds (List.getElem?_eq_getElem hi) fun u2 hu2 => ?_
        exact ⟨u, u2, ds[i], rfl, hu, hu2, hok.2 _ (List.getElem_mem hi), fun H2 s3 => ⟨_, rfl, iteF' rfl ⟨_, rfl, s2.trans s3⟩⟩⟩
      · rintro σ H' ⟨v, rfl, s2⟩
        exact q H' s2
    · have c : ["list", "tuple"].any (isTy (tyD d)) = false := by
        cases d <;> first | rfl | exact absurd ⟨_, .inl rfl⟩ hseq | exact absurd ⟨_, .inr rfl⟩ hseq
      refine iteF' c ?_
      refine ⟨_, rfl, y, tyD d, "str", rfl, hy.ty, tyD_mem d, by decide, _, rfl, ?_⟩
      cases d with
      | str z =>
        refine iteT' rfl ⟨_, rfl, x, "str", "str", rfl, hx.ty, by decide, by decide, _, rfl, iteT' rfl ⟨_, rfl, _, rfl, ?_⟩⟩
        cases hx.str_inv; cases hy.str_inv
        exact .inl ⟨rfl, by rw [decide_eq_true rfl]; exact q H1 (Same.refl _)⟩
      | bool z =>
        refine iteF' rfl ⟨_, rfl, y, "bool", "bool", rfl, hy.ty, by decide, by decide, _, rfl, iteT' rfl ⟨_, rfl, x, "bool", "bool", rfl, hx.ty, by decide, by decide, _, rfl, iteT' rfl ⟨_, rfl, _, rfl, ?_⟩⟩⟩
        cases hx.bl_inv; cases hy.bl_inv
        exact .inl ⟨rfl, by rw [decide_eq_true rfl]; exact q H1 (Same.refl _)⟩
      | int z =>
        refine iteF' rfl ⟨_, rfl, y, "int", "bool", rfl, hy.ty, by decide, by decide, _, rfl, iteF' rfl ⟨_, rfl, x, "int", "int", rfl, hx.ty, by decide, by decide, _, rfl, iteT' (by decide)
          ⟨_, rfl, x, "int", "bool", rfl, hx.ty, by decide, by decide, _, rfl, _, rfl, iteT' rfl ⟨_, rfl, _, rfl, ?_⟩⟩⟩⟩
        cases hx.int_inv; cases hy.int_inv
        exact .inl ⟨rfl, by rw [decide_eq_true rfl]; exact q H1 (Same.refl _)⟩
      | list ds => exact absurd ⟨_, .inl rfl⟩ hseq
      | tuple ds => exact absurd ⟨_, .inr rfl⟩ hseq
      | none => simp [okS] at hd
      | dict _ => simp [okS] at hd
def spTold (K : PySem.W.Frag) (C : Addr) : Sp := fun vs H Q _ => ∃ (a : Addr) (v : V) (ds : List PyData), vs = [.ref a, v] ∧ ScrAt K C H a ds ∧ Dp K H v (.tuple ds) ∧ (∀ d ∈ ds, d ∈ STEPSD) ∧ ds.length ≤ 1000 ∧ ∀ H', Same H H' → Q (.bl true) H'
theorem okS_step {n : Nat} : ∀ d ∈ STEPSD, okS (n + 2) d = true := by
  intro d hd
  simp only [STEPSD, List.mem_cons, List.not_mem_nil, or_false] at hd
  rcases hd with rfl | rfl | rfl | rfl | rfl | rfl | rfl | rfl | rfl | rfl | rfl | rfl <;> simp [okS]
theorem okS_row {n : Nat} {ds : List PyData} (h : ∀ d ∈ ds, d ∈ STEPSD) (hl : ds.length ≤ 1000) : okS (n + 3) (.tuple ds) = true := by
  simp only [okS, Bool.and_eq_true, decide_eq_true_eq, List.all_eq_true]
  exact ⟨hl, fun d hd => okS_step d (h d hd)⟩
end
end Y

/-! # draws of groups 0 and 1, over pure states -/
namespace Y
open PySem L2
local macro_rules | `(tactic| walk_at "a") => `(tactic| repeat (first
  | (with_reducible apply ev_int) | (with_reducible apply ev_str) | (with_reducible apply ev_bl) | (with_reducible apply ev_non) | (with_reducible apply ev_ty)
  | ((with_reducible apply ev_var); · rfl)
  | (with_reducible apply ev_op) | (with_reducible apply ev_un) | (with_reducible apply evs_nil) | (with_reducible apply evs_cons) | (with_reducible apply ev_cb) | (with_reducible apply ev_if)
  | (with_reducible apply et_test) | (with_reducible apply et_B) | (with_reducible apply et_and) | (with_reducible apply et_or) | (with_reducible apply et_not)
  | (with_reducible apply ex_seq) | (with_reducible apply ex_name) | (with_reducible apply ex_to) | (with_reducible apply ex_ret) | (with_reducible apply ex_if) | (with_reducible apply ex_drop) | (with_reducible apply ex_retN) | (with_reducible apply ex_next)
  | (with_reducible apply ex_par) | (with_reducible apply ex_par3) | (with_reducible apply eg_sub) | (with_reducible apply eg_name)
  | (with_reducible apply o_int) | (with_reducible apply o_bl) | (with_reducible apply o1_neg)
  | (with_reducible apply ev_andV) | (with_reducible apply ev_orV) | (with_reducible apply ev_notV)
  | (with_reducible apply ev_sl) | (with_reducible apply eo_part) | (with_reducible apply eo_no) | (with_reducible apply ev_bm) | (with_reducible apply ev_bm0)
  | (with_reducible apply ite_f) | (with_reducible apply ite_t) | (with_reducible apply ev_tupD) | (with_reducible apply ev_chain)
  | ((with_reducible apply o_ixL); (· rfl); (· rfl)) | ((with_reducible apply o_ixT); (· rfl); (· rfl))
  | ((with_reducible apply o_eq); (· rfl); (· rfl); (· rfl)) | ((with_reducible apply o_ne); (· rfl); (· rfl); (· rfl))
  | (with_reducible apply o_isN) | (with_reducible apply o_notN)
  | (with_reducible apply on_int) | (with_reducible apply on_intB) | (with_reducible apply on_max) | (with_reducible apply on_min) | (with_reducible apply on_abs)
  | ((with_reducible apply on_lenL); (· rfl)) | ((with_reducible apply on_lenT); (· rfl)) | ((with_reducible apply on_isD); (· rfl); (· decide))
  | ((with_reducible apply isSub); (· rfl); (· rfl)) | (with_reducible apply isB) | (with_reducible apply isI) | (with_reducible apply is2) | (with_reducible apply is3) | (with_reducible apply isI1) | (with_reducible apply isI2) | (with_reducible apply isT) | (with_reducible apply isL) | (with_reducible apply isScr) | ((with_reducible apply isDs); (· rfl); (· rfl))
  | ((with_reducible apply o_inT); (· rfl); (· rfl); (· decide +kernel); (· decide +kernel)) | ((with_reducible apply o_eqD); (· rfl); (· rfl); (· decide +kernel); (· decide +kernel))
  | ((with_reducible apply iteT'); · first | decide +kernel | rfl) | ((with_reducible apply iteF'); · first | decide +kernel | rfl)))
/-- a well with at most B turns -/
def PotD (ws : List PyData) (B : Int) : Prop := ∃ w0 w1 w2 : Int, ws = [.int w0, .int w1, .int w2] ∧ 0 ≤ w1 ∧ w1 < 2 ^ 200 ∧ 0 ≤ w2 ∧ w2 ≤ B
theorem PotD.mono {ws : List PyData} {B B' : Int} (h : PotD ws B) (hb : B ≤ B') : PotD ws B' := by
  obtain ⟨w0, w1, w2, h1, h2, h3, h4, h5⟩ := h
  exact ⟨w0, w1, w2, h1, h2, h3, h4, Int.le_trans h5 hb⟩
def ApWell : ASp := fun xs cs k => ∃ (ns : List Int) (i : Int), xs = [.d (.list (ns.map PyData.int)), .d (.int i)] ∧ cs = [] ∧ ns.length ≤ 63 ∧ 0 ≤ i ∧ i ≤ 1000 ∧ ∀ ws, PotD ws 0 → k (.cel 0) [.l ws]
def ApDraw : ASp := fun xs cs k => ∃ (ws : List PyData) (many B : Int), xs = [.cel 0, .d (.int many)] ∧ cs = [.l ws] ∧ PotD ws B ∧ B < 2 ^ 60 ∧ 0 < many ∧ many < 2 ^ 200 ∧ ∀ (r : Int) ws', 0 ≤ r → r < many → PotD ws' (B + 1) → k (.d (.int r)) [.l ws']
def MENUD : List PyData := [.tuple [.str "make", .str "all"], .tuple [.str "make", .str "standing"], .tuple [.str "drop"], .tuple [.str "start", .str "new"], .tuple [.str "start", .str "all"], .tuple [.str "start", .str "free"], .tuple [.str "label", .str "new"], .tuple [.str "label", .str "all"], .tuple [.str "label", .str "free"], .tuple [.str "tie", .str "new"], .tuple [.str "tie", .str "all"], .tuple [.str "tie", .str "free"]]
def ApMenu : ASp := fun xs cs k => xs = [] ∧ cs = [] ∧ k (.cel 0) [.l MENUD]
def ApRow : ASp := fun xs cs k => ∃ (ws : List PyData) (most B : Int), xs = [.cel 0, .d (.int most)] ∧ cs = [.l ws] ∧ PotD ws B ∧ B < 2 ^ 50 ∧ 0 ≤ most ∧ most ≤ 100 ∧ ∀ (ds : List PyData) ws', (∀ d ∈ ds, d ∈ STEPSD) → (ds.length : Int) ≤ most → PotD ws' (B + 200) → k (.d (.tuple ds)) [.l ws']
/-- a call with one list cell and data -/
theorem ev_call1 {K : PySem.W.Frag} {C : Addr} {E : AEnv} {cs : List Cell} {tas : TA} {k : AV → List Cell → Prop} {X : XK} {A : ASp} (h : Evs K C E cs tas fun xs cs1 => ∃ (i : Nat) (ws ds : List PyData), xs = .cel i :: ds.map AV.d ∧ cs1[i]? = some (.l ws) ∧
      A (.cel 0 :: ds.map AV.d) [.l ws] fun y cz' => k (y.ren (rho [i] cs1.length)) (putC cs1 [i] (cz'.map (Cell.ren (rho [i] cs1.length))))) : Ev K C E cs (tCall (spA K C A) [] X tas) k := ev_call fun F as H σ Q w e z => h F as H σ Q w e fun xs cs1 v F' as' H' ⟨i, ws, ds, hx, hc, hA⟩ => z xs cs1 v F' as' H' ⟨[i], .cel 0 :: ds.map AV.d, [.l ws],
    ⟨by simp, fun j hj => by rw [List.mem_singleton.mp hj]; exact (List.getElem?_eq_some_iff.mp hc).1, by
      rw [hx]
      show AV.cel i :: AV.renAll _ _ = _
      rw [renAll_map, List.map_map]; rfl, by
      show (AV.lt 1 (.cel 0) && AV.ltAll 1 (ds.map AV.d)) = true
      clear hx hA
      have : ∀ ds : List PyData, AV.ltAll 1 (ds.map AV.d) = true := fun ds => by
        induction ds with
        | nil => rfl
        | cons d ds ih => simpa [AV.ltAll, AV.lt] using ih
      rw [this]; rfl, by simp [hc, Cell.ren], rfl⟩, hA⟩
theorem ev_well {K : PySem.W.Frag} {C : Addr} {E : AEnv} {cs : List Cell} {tas : TA} {k : AV → List Cell → Prop} {X : XK} (h : Evs K C E cs tas fun xs cs1 => ∃ (ns : List Int) (i : Int), xs = [.d (.list (ns.map PyData.int)), .d (.int i)] ∧ ns.length ≤ 63 ∧ 0 ≤ i ∧ i ≤ 1000 ∧ ∀ ws, PotD ws 0 → k (.cel cs1.length) (cs1 ++ [.l ws])) : Ev K C E cs (tCall (spA K C ApWell) [] X tas) k := ev_callD fun F as H σ Q w e z => h F as H σ Q w e fun xs cs1 v F' as' H' ⟨ns, i, hx, h1, h2, h3, hk⟩ => z xs cs1 v F' as' H' ⟨[.list (ns.map .int), .int i], by rw [hx]; rfl, ns, i, rfl, rfl, h1, h2, h3, hk⟩
theorem ev_draw {K : PySem.W.Frag} {C : Addr} {E : AEnv} {cs : List Cell} {tas : TA} {k : AV → List Cell → Prop} {X : XK} (h : Evs K C E cs tas fun xs cs1 => ∃ (i : Nat) (many : Int) (ws : List PyData) (B : Int), xs = [.cel i, .d (.int many)] ∧ cs1[i]? = some (.l ws) ∧ PotD ws B ∧ B < 2 ^ 60 ∧ 0 < many ∧ many < 2 ^ 200 ∧
      ∀ (r : Int) ws', 0 ≤ r → r < many → PotD ws' (B + 1) → k (.d (.int r)) (cs1.set i (.l ws'))) : Ev K C E cs (tCall (spA K C ApDraw) [] X tas) k := ev_call1 fun F as H σ Q w e z => h F as H σ Q w e fun xs cs1 v F' as' H' ⟨i, many, ws, B, hx, hc, hp, hB, h0, h1, hk⟩ => z xs cs1 v F' as' H' ⟨i, ws, [.int many], hx, hc, ws, many, B, rfl, rfl, hp, hB, h0, h1, fun r ws' r0 r1 hp' => by
      have := hk r ws' r0 r1 hp'
      show k (.d (.int r)) (putC cs1 [i] [.l ws'])
      simp only [putC, List.append_nil]
      exact this⟩
theorem two_at {a b : PyData} {r : Int} (r0 : 0 ≤ r) (r1 : r < 2) : ∃ d, atI [a, b] r = some d ∧ (d = a ∨ d = b) := by
  obtain rfl | rfl : r = 0 ∨ r = 1 := by omega
  · exact ⟨a, rfl, .inl rfl⟩
  · exact ⟨b, rfl, .inr rfl⟩
section
variable {P : Program} {w : World} {K : PySem.W.Frag} {mg : Str → Option Value} {base : Heap}
theorem ok_draw (T : Tx K mg) (C : Addr) : FnOk P w K mg base CX0 1 T.draw.a T.draw.fd ["well", "many"] (spA K C ApDraw) := by
  refine T.draw.F.ok sc_draw (fun vs H Q E h => spA_len (l := 2) (fun xs cs k ⟨_, _, _, h, _⟩ => by rw [h]; rfl) h) (fun cdv A outer s H vs Q E hr h => ?_)
  obtain ⟨F, as, cs, xs, k, wd, ar, ⟨ws, many, B, rfl, rfl, ⟨w0, w1, w2, rfl, h10, h11, h20, h21⟩, hB, hm0, hm1, hk⟩, q⟩ := h
  refine ⟨_, (pss_cons (ps_if (pt_cmpR op_gt (pe_ix (ix_listK K) (pv 0) pe_int (fun _ _ => rfl)) pe_int (nomark _))
  (pss_cons (ps_set (i := 2) sc_draw.nd rfl (Or.inl rfl) (pe_op op_mod (pe_callTy call_int1 (by rfl) T.b_int (by decide +kernel) (pa_cons (pe_ix (ix_listK K) (pv 0) pe_int (fun _ _ => rfl)) pa_nil)) (pv 1)))
  (pss_cons (ps_asg (pe_op op_fdivW (pe_ix (ix_listK K) (pv 0) pe_int (fun _ _ => rfl)) (pv 1)) (pg_sub (pv 0) pe_int set_list))
  (pss_one (ps_ret (pv 2)))))
  pss_nil)
  (pss_cons (ps_set (i := 3) sc_draw.nd rfl (Or.inl rfl) (pe_op op_add (pe_ix (ix_listK K) (pv 0) pe_int (fun _ _ => rfl)) pe_int))
  (pss_cons (ps_asg (pv 3) (pg_sub (pv 0) pe_int set_list))
  (pss_cons (ps_set (i := 4) sc_draw.nd rfl (Or.inl rfl) (pe_op op_mod (pe_callTy call_int1 (by rfl) T.b_int (by decide +kernel) (pa_cons (pe_op op_add (pe_op op_powW (pe_op op_add (pe_ix (ix_listK K) (pv 0) pe_int (fun _ _ => rfl)) (pe_op op_mul pe_int (pv 3))) pe_int) (pe_op op_mul pe_int (pv 3))) pa_nil)) (pe_op op_add (pe_op op_powW pe_int pe_int) pe_int)))
  (pss_cons (ps_set (i := 4) sc_draw.nd rfl (Or.inl rfl) (pe_op op_mod (pe_callTy call_int1 (by rfl) T.b_int (by decide +kernel) (pa_cons (pe_op op_powW (pe_op op_add (pv 4) (pe_op op_mul pe_int (pv 3))) pe_int) pa_nil)) (pe_op op_add (pe_op op_powW pe_int pe_int) pe_int)))
  (pss_one (ps_ret (pe_op op_mod (pe_callTy call_int1 (by rfl) T.b_int (by decide +kernel) (pa_cons (pe_op op_fdivW (pv 4) (pe_op op_powW pe_int pe_int)) pa_nil)) (pv 1))))))))), ?_⟩
  refine body_go [some (.cel 0), some (.d (.int many)), none, none, none] (n := 1) rfl rfl wd ar ?_ q
  walk_at "a"
  refine iteB (fun c => ?_) (fun c => ?_)
  · have c := of_decide_eq_true c
    walk_at "a"
    refine o_intC hm0 ?_
    walk_at "a"
    refine o_intC (wide_div hm0 (b := 200) (by omega) (by decide) (by decide)) ?_
    walk_at "a"
    exact Rt.here (hk _ _ (Int.emod_nonneg _ (by omega)) (Int.emod_lt_of_pos _ hm0) ⟨_, _, _, rfl, h10, h11, h20, by omega⟩) (Nat.le_of_ble_eq_true rfl) rfl rfl
  · walk_at "a"
    have b1 : CPowW (w1 + 15485863 * (w2 + 1)) 3 := powW (a := 201) (by omega) (by decide) (by decide) (by decide)
    refine o_intC (.inl (by decide)) ?_
    walk_at "a"
    refine o_intC b1 ?_
    walk_at "a"
    refine o_intC (.inl (by decide)) ?_
    walk_at "a"
    refine o_intC ⟨by decide, by decide⟩ ?_
    walk_at "a"
    refine o_intC (by show (0 : Int) < 10 ^ 40 + 121; decide) ?_
    have m0 : 0 ≤ ((w1 + 15485863 * (w2 + 1)) ^ (3 : Int).toNat + 982451653 * (w2 + 1)) % (10 ^ (40 : Int).toNat + 121) := Int.emod_nonneg _ (by decide)
    have m1 : ((w1 + 15485863 * (w2 + 1)) ^ (3 : Int).toNat + 982451653 * (w2 + 1)) % (10 ^ (40 : Int).toNat + 121) < 10 ^ 41 := Int.lt_of_lt_of_le (Int.emod_lt_of_pos _ (by decide)) (by decide)
    generalize ((w1 + 15485863 * (w2 + 1)) ^ (3 : Int).toNat + 982451653 * (w2 + 1)) % (10 ^ (40 : Int).toNat + 121) = M at m0 m1
    walk_at "a"
    have b2 : CPowW (M + 32452843 * (w2 + 1)) 3 := powW (a := 201) (by omega) (by decide) (by decide) (by decide)
    refine o_intC (.inl (by decide)) ?_
    walk_at "a"
    refine o_intC b2 ?_
    walk_at "a"
    refine o_intC ⟨by decide, by decide⟩ ?_
    walk_at "a"
    refine o_intC (by show (0 : Int) < 10 ^ 38 + 133; decide) ?_
    generalize (M + 32452843 * (w2 + 1)) ^ (3 : Int).toNat % (10 ^ (38 : Int).toNat + 133) = N
    walk_at "a"
    refine o_intC ⟨by decide, by decide⟩ ?_
    walk_at "a"
    refine o_intC (wide_div (b := 200) (by decide) (by decide) (by decide) (by decide)) ?_
    walk_at "a"
    refine o_intC hm0 ?_
    exact Rt.here (hk _ _ (Int.emod_nonneg _ (by omega)) (Int.emod_lt_of_pos _ hm0) ⟨_, _, _, rfl, h10, h11, by omega, by omega⟩) (Nat.le_of_ble_eq_true rfl) rfl rfl
theorem ok_well (T : Tx K mg) (C : Addr) : FnOk P w K mg base CX0 1 T.well.a T.well.fd ["script", "k"] (spA K C ApWell) := by
  refine T.well.F.ok sc_well (fun vs H Q E h => spA_len (l := 2) (fun xs cs k ⟨_, _, h, _⟩ => by rw [h]; rfl) h) (fun cdv A outer s H vs Q E hr h => ?_)
  obtain ⟨F, as, cs, xs, k, wd, ar, ⟨ns, i, rfl, rfl, hl, hi0, hi1, hk⟩, q⟩ := h
  refine ⟨_, (pss_cons (ps_set (i := 2) sc_well.nd rfl (Or.inl rfl) pe_int)
  (C8.pss_cut (ps_if (pt_cmpR op_lt (pv 1) (pe_callB (call_lenK K) (by rfl) T.b_len (by decide +kernel) (pa_cons (pv 0) pa_nil)) (nomark _))
  (pss_one (ps_set (i := 2) sc_well.nd rfl (Or.inl rfl) (pe_callTy call_int1 (by rfl) T.b_int (by decide +kernel) (pa_cons (pe_ix (ix_listK K) (pv 0) (pv 1) (fun _ _ => rfl)) pa_nil))))
  pss_nil)
  (pss_cons (ps_set (i := 3) sc_well.nd rfl (Or.inl rfl) (pe_op op_mul pe_int (pv 2)))
  (C8.pss_cut (ps_if (pt_cmpR op_lt (pv 2) pe_int (nomark _))
  (pss_one (ps_set (i := 3) sc_well.nd rfl (Or.inl rfl) (pe_op op_sub (pe_op op_mul (pe_un un_neg pe_int) (pv 2)) pe_int)))
  pss_nil)
  (pss_one (ps_ret (pe_lst (pa_cons (pe_callB (call_max2 rfl) (by rfl) T.b_max (by decide +kernel) (pa_cons pe_int (pa_cons (pe_op op_sub (pv 3) (pe_op op_powW pe_int pe_int)) pa_nil))) (pa_cons (pe_op op_add (pe_op op_mod (pe_callTy call_int1 (by rfl) T.b_int (by decide +kernel) (pa_cons (pv 3) pa_nil)) (pe_op op_add (pe_op op_powW pe_int pe_int) pe_int)) (pe_op op_mul pe_int (pv 1))) (pa_cons pe_int pa_nil)))))))))), ?_⟩
  refine body_go [some (.d (.list (ns.map PyData.int))), some (.d (.int i)), none, none] (n := 0) rfl rfl wd ar ?_ q
  walk_at "a"
  refine ex_mid (fun E' cs' => cs' = [] ∧ ∃ c : Int, E' = [some (.d (.list (ns.map PyData.int))), some (.d (.int i)), some (.d (.int c)), none]) ?_ ?_
  · walk_at "a"
    refine iteB (fun c => ?_) (fun c => ?_)
    · have c := of_decide_eq_true c
      rw [List.length_map] at c
      obtain ⟨j, rfl⟩ : ∃ j : Nat, i = (j : Int) := ⟨i.toNat, by omega⟩
      have hj : j < ns.length := by omega
      walk_at "a"
      refine o_ixL (by rfl) (atI_nat (by rw [List.getElem?_map, List.getElem?_eq_getElem hj]; rfl)) ?_
      walk_at "a"
      exact ⟨rfl, _, rfl⟩
    · walk_at "a"
      exact ⟨rfl, _, rfl⟩
  rintro E' cs' ⟨rfl, c, rfl⟩
  walk_at "a"
  refine o_intC (.inl (by decide)) ?_
  walk_at "a"
  refine ex_mid (fun E' cs' => cs' = [] ∧ ∃ d : Int, E' = [some (.d (.list (ns.map PyData.int))), some (.d (.int i)), some (.d (.int c)), some (.d (.int d))]) ?_ ?_
  · walk_at "a"
    refine iteB (fun c => ?_) (fun c => ?_)
    · walk_at "a"
      refine o_intC (.inl (by decide)) ?_
      walk_at "a"
      exact ⟨rfl, _, rfl⟩
    · walk_at "a"
      exact ⟨rfl, _, rfl⟩
  rintro E' cs' ⟨rfl, c, rfl⟩
  walk_at "a"
  refine ev_lstD ?_
  walk_at "a"
  refine o_intC ⟨by decide, by decide⟩ ?_
  walk_at "a"
  refine o_intC ⟨by decide, by decide⟩ ?_
  walk_at "a"
  refine o_intC (by show (0 : Int) < 10 ^ 27 + 103; decide) ?_
  walk_at "a"
  refine o_intC (.inl (by decide)) ?_
  walk_at "a"
  show Rt 0 k _ _
  refine Rt.here ?_ (Nat.zero_le _) rfl rfl
  refine hk _ ⟨_, _, _, rfl, ?_, ?_, Int.le_refl 0, Int.le_refl 0⟩
  · have := Int.emod_nonneg c (show (10 ^ (27 : Int).toNat + 103 : Int) ≠ 0 by decide); show 0 ≤ c % (10 ^ (27 : Int).toNat + 103) + 65537 * i; omega
  · have h1 := Int.emod_lt_of_pos c (show (0 : Int) < 10 ^ (27 : Int).toNat + 103 by decide)
    show c % (10 ^ (27 : Int).toNat + 103) + 65537 * i < 2 ^ 200
    have h2 : (10 ^ (27 : Int).toNat + 103 : Int) + 65537 * 1000 < 2 ^ 200 := by decide
    omega
theorem ok_menu (T : Tx K mg) (C : Addr) : FnOk P w K mg base CX0 1 T.menu.a T.menu.fd [] (spA K C ApMenu) := by
  refine T.menu.F.ok sc_menu (fun vs H Q E h => spA_len (l := 0) (fun xs cs k ⟨h, _⟩ => by rw [h]; rfl) h) (fun cdv A outer s H vs Q E hr h => ?_)
  obtain ⟨F, as, cs, xs, k, wd, ar, ⟨rfl, rfl, hk⟩, q⟩ := h
  refine ⟨_, (pss_cons (ps_set (i := 0) sc_menu.nd rfl (Or.inl rfl) (pe_lst (pa_cons (pe_tup (pa_cons pe_str (pa_cons pe_str pa_nil))) (pa_cons (pe_tup (pa_cons pe_str (pa_cons pe_str pa_nil))) (pa_cons (pe_tup (pa_cons pe_str pa_nil)) pa_nil)))))
  (pss_cons (ps_for PassesOwn.never rfl (pi_listK K (pe_lst (pa_cons pe_str (pa_cons pe_str (pa_cons pe_str pa_nil))))) (pg_name (i := 1) sc_menu.nd rfl (Or.inl rfl))
  (pss_one (ps_expr (pe_bmK2 K PySem.F.plainAttrs_list PySem.F.slot_list_extend PySem.F.type_list_extend mt_extend (pv 0) (pa_cons (pe_lst (pa_cons (pe_tup (pa_cons (pv 1) (pa_cons pe_str pa_nil))) (pa_cons (pe_tup (pa_cons (pv 1) (pa_cons pe_str pa_nil))) (pa_cons (pe_tup (pa_cons (pv 1) (pa_cons pe_str pa_nil))) pa_nil)))) pa_nil)))))
  (pss_one (ps_ret (pv 0))))), ?_⟩
  refine body_go [none, none] (n := 0) rfl rfl wd ar ?_ q
  walk_at "a"
  refine ev_lstD ?_
  walk_at "a"
  refine ex_for 1 (Nat.zero_le _) (ei_listD ?_)
  walk_at "a"
  refine ev_lstF ?_
  walk_at "a"
  refine ⟨Nat.le_refl 1, fun i E' cs' => E' = [some (.cel 0), none] ∧ cs' = [.l (MENUD.take (3 + 3 * i))], ⟨rfl, rfl⟩, fun _ _ _ _ => trivial, ?_, ?_⟩
  · rintro i y E' cs' hy ⟨rfl, rfl⟩
    obtain ⟨hi, wd2, rfl, hwd⟩ : i < 3 ∧ ∃ wd : Str, y = .d (.str wd) ∧ (([.str "start", .str "label", .str "tie"] : List PyData)[i]? = some (.str wd)) := by
      have hi : i < 3 := (List.getElem?_eq_some_iff.mp hy).1
      obtain rfl | rfl | rfl : i = 0 ∨ i = 1 ∨ i = 2 := by omega
      · exact ⟨by decide, _, by simpa using hy.symm, rfl⟩
      · exact ⟨by decide, _, by simpa using hy.symm, rfl⟩
      · exact ⟨by decide, _, by simpa using hy.symm, rfl⟩
    refine eg_name ?_
    walk_at "a"
    refine ⟨ty_l (by rfl), ?_⟩
    walk_at "a"
    refine ev_lstD ?_
    walk_at "a"
    refine om_extend (i := 0) (j := 1) rfl rfl (by rw [List.length_take]; show min _ 12 + 3 ≤ _; omega) ?_
    refine Cm.mask [true, false] 1 rfl (Nat.le_refl 1) rfl rfl ⟨rfl, ?_⟩
    obtain rfl | rfl | rfl : i = 0 ∨ i = 1 ∨ i = 2 := by omega
    · cases hwd; rfl
    · cases hwd; rfl
    · cases hwd; rfl
  · rintro E' cs' ⟨rfl, rfl⟩
    walk_at "a"
    exact Rt.here hk (Nat.zero_le _) rfl rfl
theorem menu_steps {d : PyData} (h : d ∈ MENUD) : d ∈ STEPSD := by
  simp only [MENUD, List.mem_cons, List.not_mem_nil, or_false] at h
  rcases h with rfl | rfl | rfl | rfl | rfl | rfl | rfl | rfl | rfl | rfl | rfl | rfl <;> simp [STEPSD]
theorem ev_menu {C : Addr} {E : AEnv} {cs : List Cell} {k : AV → List Cell → Prop} {X : XK} (h : k (.cel cs.length) (cs ++ [.l MENUD])) : Ev K C E cs (tCall (spA K C ApMenu) [] X tNil) k :=
  ev_callD fun F as H σ Q w e z => z [] cs [] F as H ⟨[], rfl, rfl, rfl, h⟩ Stp.refl w .nil
theorem ok_row (T : Tx K mg) (C : Addr) : FnOk P w K mg base CX0 2 T.row.a T.row.fd ["well", "most"] (spA K C ApRow) := by
  have G_draw := ok_draw (P := P) (w := w) (base := base) T C
  have G_menu := ok_menu (P := P) (w := w) (base := base) T C
  refine T.row.F.ok sc_row (fun vs H Q E h => spA_len (l := 2) (fun xs cs k ⟨_, _, _, h, _⟩ => by rw [h]; rfl) h) (fun cdv A outer s H vs Q E hr h => ?_)
  obtain ⟨F, as, cs, xs, k, wd, ar, ⟨ws, most, B, rfl, rfl, hp, hB, hm0, hm1, hk⟩, q⟩ := h
  refine ⟨_, (pss_cons (ps_par3 (i := 2) (j := 3) (l := 4) rfl sc_row.nd rfl rfl rfl (by decide) (by decide) (by decide) rfl rfl rfl (pa_cons (pe_call0 G_menu (hr.mono (by first | decide | omega)) rfl T.menu.g T.menu.F.kp T.menu.b .nil pass0) (pa_cons (pe_op op_add pe_int (pe_call G_draw (hr.mono (by first | decide | omega)) rfl T.draw.g T.draw.F.kp T.draw.b .nil pass0 (pa_cons (pv 0) (pa_cons pe_int pa_nil)))) (pa_cons (pe_lst pa_nil) pa_nil))) rfl)
  (pss_cons (ps_for PassesOwn.never rfl (pi_range1 (by rfl) T.b_range (pa_cons (pe_call G_draw (hr.mono (by first | decide | omega)) rfl T.draw.g T.draw.F.kp T.draw.b .nil pass0 (pa_cons (pv 0) (pa_cons (pe_op op_add (pv 1) pe_int) pa_nil))) pa_nil)) (pg_name (i := 5) sc_row.nd rfl (Or.inl rfl))
  (pss_one (ps_expr (pe_bmK2 K PySem.F.plainAttrs_list PySem.F.slot_list_append PySem.F.type_list_append mt_append (pv 4) (pa_cons (pe_ix (ix_listK K) (pv 2) (pe_op op_mod (pe_callTy call_int1 (by rfl) T.b_int (by decide +kernel) (pa_cons (pe_op op_mul (pe_call G_draw (hr.mono (by first | decide | omega)) rfl T.draw.g T.draw.F.kp T.draw.b .nil pass0 (pa_cons (pv 0) (pa_cons (pv 3) pa_nil))) pe_int) pa_nil)) pe_int) (fun _ _ => rfl)) pa_nil)))))
  (pss_one (ps_ret (pe_callTy (call_tupK K) (by rfl) T.b_tuple (by decide +kernel) (pa_cons (pv 4) pa_nil)))))), ?_⟩
  refine body_go [some (.cel 0), some (.d (.int most)), none, none, none, none] (n := 1) rfl rfl wd ar ?_ q
  walk_at "a"
  refine ev_menu ?_
  walk_at "a"
  refine ev_draw ?_
  walk_at "a"
  refine ⟨0, _, ws, B, rfl, rfl, hp, by omega, by decide, by decide, fun r1 ws1 a1 b1 p1 => ?_⟩
  walk_at "a"
  refine ev_lstD ?_
  walk_at "a"
  refine ex_for 3 (by decide) (ei_rng1 ?_)
  walk_at "a"
  refine ev_draw ?_
  walk_at "a"
  refine ⟨0, _, ws1, B + 1, rfl, rfl, p1, by omega, by omega, by omega, fun r2 ws2 a2 b2 p2 => ?_⟩
  walk_at "a"
  refine ⟨by omega, by omega, Nat.le_refl 3, fun i E' cs' => ∃ (ds ws' : List PyData), E' = [some (.cel 0), some (.d (.int most)), some (.cel 1), some (.d (.int (1 + r1))), some (.cel 2), none] ∧ cs' = [.l ws', .l MENUD, .l ds] ∧ (∀ d ∈ ds, d ∈ STEPSD) ∧ ds.length = i ∧ PotD ws' (B + 2 + i), ⟨[], ws2, rfl, rfl, fun d hd => absurd hd List.not_mem_nil, rfl, p2.mono (by omega)⟩, fun _ _ _ _ => trivial, ?_, ?_⟩
  · rintro i y E' cs' hy ⟨ds, ws3, rfl, rfl, hds, hl, hp3⟩
    obtain ⟨hi, rfl⟩ := rngA_get hy
    refine eg_name ?_
    walk_at "a"
    refine ⟨ty_l (by rfl), ?_⟩
    walk_at "a"
    refine ev_draw ?_
    walk_at "a"
    refine ⟨0, _, ws3, B + 2 + i, rfl, rfl, hp3, by omega, by omega, by omega, fun r3 ws4 a3 b3 p4 => ?_⟩
    walk_at "a"
    refine o_intC (.inr (by decide)) ?_
    walk_at "a"
    refine o_intC (by show (0 : Int) < 12; decide) ?_
    have h0 : 0 ≤ r3 * 5 % 12 := Int.emod_nonneg _ (by decide)
    have h1 : r3 * 5 % 12 < 12 := Int.emod_lt_of_pos _ (by decide)
    obtain ⟨j, hj⟩ : ∃ j : Nat, r3 * 5 % 12 = (j : Int) := ⟨(r3 * 5 % 12).toNat, by omega⟩
    have hj12 : j < MENUD.length := by show j < 12; omega
    rw [hj]
    refine o_ixL (ds := MENUD) (by rfl) (atI_nat (List.getElem?_eq_getElem hj12)) ?_
    walk_at "a"
    refine om_append (i := 2) (ds := ds) (by rfl) (by omega) ?_
    refine Cm.mask [true, true, true, true, true, false] 3 rfl (Nat.le_refl 3) rfl rfl ⟨ds ++ [MENUD[j]], ws4, rfl, rfl, fun d hd => ?_, by rw [List.length_append, hl]; rfl, p4.mono (by omega)⟩
    rcases List.mem_append.mp hd with hd | hd
    · exact hds d hd
    · rw [List.mem_singleton.mp hd]; exact menu_steps (List.getElem_mem hj12)
  · rintro E' cs' ⟨ds, ws3, rfl, rfl, hds, hl, hp3⟩
    rw [rngA_len] at hl hp3
    walk_at "a"
    refine on_tupL (by rfl) ?_
    exact Rt.cut 1 (hk ds ws3 hds (by omega) (hp3.mono (by omega))) (Nat.le_refl 1) rfl rfl
theorem ev_row {C : Addr} {E : AEnv} {cs : List Cell} {tas : TA} {k : AV → List Cell → Prop} {X : XK} (h : Evs K C E cs tas fun xs cs1 => ∃ (i : Nat) (most : Int) (ws : List PyData) (B : Int), xs = [.cel i, .d (.int most)] ∧ cs1[i]? = some (.l ws) ∧ PotD ws B ∧ B < 2 ^ 50 ∧ 0 ≤ most ∧ most ≤ 100 ∧
      ∀ (ds : List PyData) ws', (∀ d ∈ ds, d ∈ STEPSD) → (ds.length : Int) ≤ most → PotD ws' (B + 200) → k (.d (.tuple ds)) (cs1.set i (.l ws'))) : Ev K C E cs (tCall (spA K C ApRow) [] X tas) k := ev_call1 fun F as H σ Q w e z => h F as H σ Q w e fun xs cs1 v F' as' H' ⟨i, most, ws, B, hx, hc, hp, hB, h0, h1, hk⟩ => z xs cs1 v F' as' H' ⟨i, ws, [.int most], hx, hc, ws, most, B, rfl, rfl, hp, hB, h0, h1, fun ds ws' r0 r1 hp' => by
      have := hk ds ws' r0 r1 hp'
      show k (.d (.tuple ds)) (putC cs1 [i] [.l ws'])
      simp only [putC, List.append_nil]
      exact this⟩
end
end Y

set_option pp.deepTerms false
set_option pp.deepTerms.threshold 8
/-! # scripts that are refused -/
namespace Y
open PySem L2
local macro_rules | `(tactic| walk_at "a") => `(tactic| repeat (first
  | (with_reducible apply ev_int) | (with_reducible apply ev_str) | (with_reducible apply ev_bl) | (with_reducible apply ev_non) | (with_reducible apply ev_ty)
  | ((with_reducible apply ev_var); · rfl)
  | (with_reducible apply ev_op) | (with_reducible apply ev_un) | (with_reducible apply evs_nil) | (with_reducible apply evs_cons) | (with_reducible apply ev_cb) | (with_reducible apply ev_if)
  | (with_reducible apply et_test) | (with_reducible apply et_B) | (with_reducible apply et_and) | (with_reducible apply et_or) | (with_reducible apply et_not)
  | (with_reducible apply ex_seq) | (with_reducible apply ex_name) | (with_reducible apply ex_to) | (with_reducible apply ex_ret) | (with_reducible apply ex_if) | (with_reducible apply ex_drop) | (with_reducible apply ex_retN) | (with_reducible apply ex_next)
  | (with_reducible apply ex_par) | (with_reducible apply ex_par3) | (with_reducible apply eg_sub) | (with_reducible apply eg_name)
  | (with_reducible apply o_int) | (with_reducible apply o_bl) | (with_reducible apply o1_neg)
  | (with_reducible apply ev_andV) | (with_reducible apply ev_orV) | (with_reducible apply ev_notV)
  | (with_reducible apply ev_sl) | (with_reducible apply eo_part) | (with_reducible apply eo_no) | (with_reducible apply ev_bm) | (with_reducible apply ev_bm0)
  | (with_reducible apply ite_f) | (with_reducible apply ite_t) | (with_reducible apply ev_tupD) | (with_reducible apply ev_chain)
  | ((with_reducible apply o_ixL); (· rfl); (· rfl)) | ((with_reducible apply o_ixT); (· rfl); (· rfl))
  | ((with_reducible apply o_eq); (· rfl); (· rfl); (· rfl)) | ((with_reducible apply o_ne); (· rfl); (· rfl); (· rfl))
  | (with_reducible apply o_isN) | (with_reducible apply o_notN)
  | (with_reducible apply on_int) | (with_reducible apply on_intB) | (with_reducible apply on_max) | (with_reducible apply on_min) | (with_reducible apply on_abs)
  | ((with_reducible apply on_lenL); (· rfl)) | ((with_reducible apply on_lenT); (· rfl)) | ((with_reducible apply on_isD); (· rfl); (· decide))
  | ((with_reducible apply isSub); (· rfl); (· rfl)) | (with_reducible apply isB) | (with_reducible apply isI) | (with_reducible apply is2) | (with_reducible apply is3) | (with_reducible apply isI1) | (with_reducible apply isI2) | (with_reducible apply isT) | (with_reducible apply isL) | (with_reducible apply isScr) | ((with_reducible apply isDs); (· rfl); (· rfl))
  | ((with_reducible apply o_inT); (· rfl); (· rfl); (· decide +kernel); (· decide +kernel)) | ((with_reducible apply o_eqD); (· rfl); (· rfl); (· decide +kernel); (· decide +kernel))
  | ((with_reducible apply iteT'); · first | decide +kernel | rfl) | ((with_reducible apply iteF'); · first | decide +kernel | rfl)))
theorem seq_run {K : PySem.W.Frag} {C : Addr} {F H : Hp} {as : Own} {cs : List Cell} {E : AEnv} {n : Nat} {D : AEnds} {t u : TS} {Dc : Ends} {σ : St} (h : Ex K C n E cs t D) (hn : n ≤ cs.length) (w : Wd K C F as cs H) (e : EnvR K C F as E σ) (r : EndsR K C n F as H D { Dc with nx := u Dc }) : tSeq t u Dc σ H := h F as H σ _ hn w e r
/-! ### any value as a step -/
def lenOk : PyData → Bool
  | .tuple ds => decide (ds.length ≤ 20000)
  | _ => true
def stepA (x : AV) (cs : List Cell) : Option Bool := match datOf x cs with
  | some d => if (SeqAt.shaped d && lenOk d) = true then some (isStepD d) else none
  | none => match tyA x cs with
    | some t => if (t == "tuple") = true then none else some false
    | none => none
section
variable {K : PySem.W.Frag} {C : Addr} {F F' H H' : Hp} {as as' : Own} {cs cs' cs1 : List Cell} {E : AEnv} {k : AV → List Cell → Prop} {x y : AV} {te : TE} {tas : TA} {X : XK} {n m : Nat} {W : WX} {ex : EX}
theorem ev_isStepA (h : Evs K C E cs tas fun xs cs1 => ∃ x b, xs = [x] ∧ stepA x cs1 = some b ∧ k (.d (.bool b)) cs1) : Ev K C E cs (tCall (spIsStep K) [] X tas) k := fun F as H σ Q w e z => by
  refine h F as H σ _ w e fun xs cs1 vs F1 as1 H1 ⟨x, b, hx, hb, hk⟩ s1 w1 r1 => ?_
  show spIsStep K (vs ++ []) H1 Q X
  subst hx
  cases r1 with | cons r1 r2 =>
  cases r2
  have q := Kt.later z s1
  unfold stepA at hb
  refine ⟨_, rfl, ?_⟩
  cases hd : datOf x cs1 with
  | some d =>
    rw [hd] at hb
    simp only at hb
    split at hb
    · rename_i c
      rw [Bool.and_eq_true] at c
      cases hb
      refine .inl ⟨d, datOf_at hd w1 r1, c.1, fun ds e => ?_, fun H' s => q.same w1 s hk (.d (.bl _))⟩
      have c2 := c.2
      rw [e] at c2
      exact of_decide_eq_true c2
    · cases hb
  | none =>
    rw [hd] at hb
    simp only at hb
    cases ht : tyA x cs1 with
    | none => rw [ht] at hb; cases hb
    | some t =>
      rw [ht] at hb
      simp only at hb
      split at hb
      · cases hb
      · rename_i c
        cases hb
        obtain ⟨h1, h2⟩ := tyA_at ht w1 r1
        exact .inr ⟨t, h1, h2, fun e => c (by rw [e]; rfl), q.now hk w1 (.d (.bl false))⟩
/-- for i, x in enumerate(a tuple of any values) -/
def itemsT : AV → Option (List AV)
  | .d (.tuple ds) => some (ds.map AV.d)
  | .tup ys => some ys
  | _ => none
theorem itemsT_at {ys : List AV} {v : V} (h : itemsT x = some ys) (w : Wd K C F as cs H) (r : AR K C F as x v) : ∃ p xs, v = .ref p ∧ SqT K F p xs ∧ ARs K C F as ys xs := by
  cases x with
  | d d =>
    cases r with | d r =>
    cases d with
    | tuple es =>
      simp [itemsT] at h; subst h
      obtain ⟨p, xs, rfl, h1, h2⟩ := r.tup_inv
      exact ⟨p, xs, rfl, h1, ARs.data h2⟩
    | _ => simp [itemsT] at h
  | tup zs =>
    simp [itemsT] at h; subst h
    cases r with | tup h1 h2 => exact ⟨_, _, rfl, h1, h2⟩
  | _ => simp [itemsT] at h
theorem ei_enumTA {ki : List AV → (List Cell → Prop) → List Cell → Prop} (h : Evs K C E cs tas fun xs cs1 => cs1.length = m ∧ ∃ x ys, xs = [x] ∧ itemsT x = some ys ∧ ki (ys.mapIdx fun i y => .tup [.d (.int (i : Nat)), y]) (fun _ => True) cs1) : Evi K C m E cs (iEnumT K tas) ki := fun F as H σ R w e q => by
  refine h F as H σ _ w e fun xs cs1 vs F1 as1 H1 ⟨hm, x, ys, hx, hy, h1⟩ s1 w1 r1 => ?_
  subst hx
  cases r1 with | cons r1 r2 =>
  cases r2
  have hm : as1.length = m := by rw [w1.len]; exact hm
  subst hm
  obtain ⟨p, us, rfl, h2, h3⟩ := itemsT_at hy w1 r1
  refine ⟨p, us, rfl, w1.fro.sqT h2, q _ _ cs1 F1 as1 H1 _ h1 s1 w1 ⟨fun t y F2 as2 cs2 H2 ht _ s2 w2 => ?_, fun F2 as2 cs2 H2 _ s2 w2 => ?_⟩⟩
  · have hs2 := w2.fro.sqT (s2.f.sqT h2)
    rw [List.getElem?_mapIdx] at ht
    obtain ⟨d, hdd, rfl⟩ := Option.map_eq_some_iff.mp ht
    obtain ⟨v, hv, rv⟩ := (h3.mono s2.f s2.pre).get hdd
    refine ⟨⟨us, v, hs2, hv⟩, fun x H' ⟨T, u, e1, e2, e3, e4⟩ => ?_⟩
    have hu := e4 us hs2
    rw [hv] at hu; cases hu
    subst e1 e3
    obtain ⟨w3, s3, sF⟩ := w2.newF e2 (.tup [.int (t : Nat), v])
    exact ⟨_, s3, w3, .tup (SqT.of upd_same) (.cons (.d (.int _)) (.cons (rv.mono sF Pre.refl) .nil))⟩
  · have hs2 := w2.fro.sqT (s2.f.sqT h2)
    exact ⟨us, hs2, by rw [List.length_mapIdx, h3.length]⟩
end
/-! ### Script(thing) -/
def firstBad : Nat → List Bool → Option Nat
  | _, [] => none
  | i, b :: bs => if 12 ≤ i ∨ b = false then some i else firstBad (i + 1) bs
theorem firstBad_at : ∀ {bs : List Bool} {j i : Nat} {b : Bool}, (∀ t, t < i → j + t < 12 ∧ bs[t]? = some true) → bs[i]? = some b → (12 ≤ j + i ∨ b = false) → firstBad j bs = some (j + i)
  | [], _, _, _, _, h, _ => by simp at h
  | a :: bs, j, 0, b, _, h, c => by
    simp at h; subst h
    unfold firstBad
    rw [if_pos (by simpa using c)]; rfl
  | a :: bs, j, i + 1, b, h0, h, c => by
    have h1 := h0 0 (Nat.succ_pos i)
    simp at h1
    unfold firstBad
    rw [if_neg (by rintro (z | z)
                   · omega
                   · rw [h1.2] at z; cases z)]
    have := firstBad_at (bs := bs) (j := j + 1) (i := i) (b := b) (fun t ht => by
      have := h0 (t + 1) (by omega)
      exact ⟨by omega, by simpa using this.2⟩) (by simpa using h) (by rcases c with c | c
                                                                      · exact .inl (by omega)
                                                                      · exact .inr c)
    rw [this]; congr 1; omega
theorem firstBad_none : ∀ {bs : List Bool} {j : Nat}, (∀ t, t < bs.length → j + t < 12 ∧ bs[t]? = some true) → firstBad j bs = none
  | [], _, _ => rfl
  | a :: bs, j, h => by
    have h1 := h 0 (by simp)
    simp at h1
    unfold firstBad
    rw [if_neg (by rintro (z | z)
                   · omega
                   · rw [h1.2] at z; cases z)]
    exact firstBad_none fun t ht => by
      have := h (t + 1) (by simpa using ht)
      exact ⟨by omega, by simpa using this.2⟩
/-- what Script(y) does: the steps, or the index -/
inductive InitOf (cs : List Cell) : AV → List PyData ⊕ Nat → Prop
  | no {y : AV} {t : String} : itemsT y = none → tyA y cs = some t → t ≠ "tuple" → InitOf cs y (.inr 0)
  | bad {y : AV} {ys : List AV} {bs : List Bool} {i : Nat} : itemsT y = some ys → tyA y cs = some "tuple" → ys.map (fun z => stepA z cs) = bs.map some → ys.length ≤ 100000 → firstBad 0 bs = some i → InitOf cs y (.inr i)
  | ok {ds : List PyData} : Row ds → InitOf cs (.d (.tuple ds)) (.inl ds)
def spInitX (K : PySem.W.Frag) (C cN : Addr) : Sp := fun vs H Q E => ∃ F as cs y a dx v r, vs = [.ref a, v] ∧ H a = some (.ins C dx []) ∧ ¬ inA as a ∧ Wd K C F as cs H ∧ AR K C F as y v ∧ InitOf cs y r ∧
  (∀ ds F' as' H' u, r = .inl ds → Stp as.length F as H F' as' H' → Wd K C F' as' cs H' → AR K C F' as' y u → Q .non (upd H' a (.ins C dx (kf u)))) ∧
  (∀ i d F' as' H', r = .inr i → Stp as.length F as H F' as' H' → Wd K C F' as' cs H' → XR K C F' as' (.fld "index" (.d (.int (i : Nat)))) d → E (.ref cN) d H')
section
variable {P : Program} {w : World} {K : PySem.W.Frag} {mg : Str → Option Value} {base : Heap}
theorem ok_NoStep_init (T : Tx K mg) : FnOk P w K mg base CX0 1 T.NoStep_init.a T.NoStep_init.fd ["self", "index"] (spOInit T.c_NoStep "index") := by
  refine T.NoStep_init.F.ok sc_NoStep_init (fun vs H Q E h => by obtain ⟨a, v, rfl, _⟩ := h; rfl) (fun cdv A outer s H vs Q E hr h => ?_)
  obtain ⟨a, v, rfl, hx, q⟩ := h
  refine ⟨_, (pss_one (ps_ost (pv 0) (pv 1))), ?_⟩
  exact ⟨_, rfl, _, rfl, a, _, rfl, T.ox_NoStep, T.nf_NoStep, .inl ⟨hx, fun dx n ne => q dx n ne⟩⟩
theorem okx_Script_init (T : Tx K mg) : FnOk P w K mg base (L2.CX P w) 4 T.Script_init.a T.Script_init.fd ["self", "steps"] (spInitX K T.c_Script T.c_NoStep) := by
  have G_is_step := ok_is_step (P := P) (w := w) (base := base) T
  have G_NoStep_init := ok_NoStep_init (P := P) (w := w) (base := base) T
  refine T.Script_init.F.okX sc_Script_init (fun vs H Q E h => by obtain ⟨_, _, _, _, _, _, _, _, rfl, _⟩ := h; rfl) (fun cdv A outer s H vs Q E hr h => ?_)
  obtain ⟨F, as, cs, y, a, dx, v, r, rfl, hx, ha, wd, ar, hi, q1, q2⟩ := h
  refine ⟨_, (pss_cons (ps_if (pt_not (pt_val (pe_callB (call_isDK K) (by rfl) T.b_isinstance (by decide +kernel) (pa_cons (pv 1) (pa_cons (pe_bltn (v := .ty "tuple") (by rfl) T.b_tuple (by decide +kernel) rfl) pa_nil)))))
  (pss_one (ps_raiseO rfl T.ox_NoStep T.NoStep_init.m.at_ T.tt_NoStep G_NoStep_init (hr.mono (by first | decide | omega)) T.NoStep_init.b pass0 (takes_of rfl rfl rfl rfl) rfl T.g_NoStep (pa_cons pe_int pa_nil)))
  pss_nil)
  (pss_cons (ps_for (passes_of rfl) rfl (pi_enumT (by rfl) T.b_enumerate (pa_cons (pv 1) pa_nil)) (pg_tupK K rfl (pgs_cons (pg_name (i := 2) sc_Script_init.nd rfl (Or.inl rfl)) (pgs_cons (pg_name (i := 3) sc_Script_init.nd rfl (Or.inl rfl)) pgs_nil)))
  (pss_one (ps_if (PW.pt (pw_or (pt_cmpR op_ge (pv 2) (pe_glob (v := .int 12) rfl T.g_MOST_STEPS ⟨_, rfl⟩) (nomark _)) (pw_or1 (pt_not (pt_val (pe_call G_is_step (hr.mono (by first | decide | omega)) rfl T.is_step.g T.is_step.F.kp T.is_step.b .nil pass0 (pa_cons (pv 3) pa_nil)))))))
  (pss_one (ps_raiseO rfl T.ox_NoStep T.NoStep_init.m.at_ T.tt_NoStep G_NoStep_init (hr.mono (by first | decide | omega)) T.NoStep_init.b pass0 (takes_of rfl rfl rfl rfl) rfl T.g_NoStep (pa_cons (pv 2) pa_nil)))
  pss_nil)))
  (pss_one (ps_fldK K (pv 0) (pv 1) rfl)))), ?_⟩
  have ar2 : ARs K T.c_Script F as [.raw a, y] [.ref a, v] := .cons .raw (.cons ar .nil)
  have e0 := EnvR.start (N := ["self", "steps", "index", "step"]) ar2
  have keep : ∀ {F' : Hp} {as' : Own} {H' : Hp}, Stp cs.length F as H F' as' H' → H' a = some (.ins T.c_Script dx []) := fun s => s.fr a _ hx ha
  have hlen : as.length = cs.length := wd.len
  have exE : ∀ (c : Addr) (p : XP) (E' : AEnv) (cs' : List Cell) (F' : Hp) (as' : Own) (H' : Hp) (σ : St) (d : Option Addr), (c = T.c_NoStep ∧ cs' = cs ∧ ∃ i : Nat, p = .fld "index" (.d (.int (i : Int))) ∧ r = .inr i) → Stp cs.length F as H F' as' H' → Wd K T.c_Script F' as' cs' H' → EnvR K T.c_Script F' as' E' σ → XR K T.c_Script F' as' p d → E (.ref c) d H' := fun c p E' cs' F' as' H' σ d ⟨h1, h2, i, h3, h4⟩ s w' _ xr => by
    subst h1 h2 h3
    exact q2 i d F' as' H' h4 (by rw [hlen]; exact s) w' xr
  cases hi with
  | @no y t h1 h2 h3 =>
    refine seq_run (n := cs.length) (E := [some (.raw a), some y, none, none]) (D := { nx := fun _ _ => False, rt := fun _ _ => False, W := fun cls d _ H => E cls d H, ex := fun c p _ cs' => c = T.c_NoStep ∧ cs' = cs ∧ ∃ i : Nat, p = .fld "index" (.d (.int (i : Int))) ∧ (.inr 0 : List PyData ⊕ Nat) = .inr i }) ?_ (Nat.le_refl _) wd e0 ⟨fun _ _ _ _ _ _ h => h.elim, fun _ _ _ _ _ _ h => h.elim, fun _ _ _ _ _ _ h => h.elim, fun _ _ _ _ _ _ h => h.elim, exE⟩
    walk_at "a"
    refine on_isD h2 (by decide) ?_
    have ht : isTy t "tuple" = false := by unfold isTy; simp [h3]
    rw [ht]
    walk_at "a"
    refine ex_raiseO (D := { nx := _, rt := _, W := fun cls d _ H => E cls d H, ex := _ }) ?_
    walk_at "a"
    exact ⟨_, rfl, rfl, rfl, 0, rfl, rfl⟩
  | @bad y ys bs i h1 h2 h3 h4 h5 =>
    refine seq_run (n := cs.length) (E := [some (.raw a), some y, none, none]) (D := { nx := fun E' cs' => E' = [some (.raw a), some y, none, none] ∧ cs' = cs, rt := fun _ _ => False, W := fun cls d _ H => E cls d H, ex := fun c p _ cs' => c = T.c_NoStep ∧ cs' = cs ∧ ∃ i' : Nat, p = .fld "index" (.d (.int (i' : Int))) ∧ (.inr i : List PyData ⊕ Nat) = .inr i' }) ?_ (Nat.le_refl _) wd e0 ⟨?_, fun _ _ _ _ _ _ h => h.elim, fun _ _ _ _ _ _ h => h.elim, fun _ _ _ _ _ _ h => h.elim, exE⟩
    · walk_at "a"
      refine on_isD h2 (by decide) ?_
      walk_at "a"
      exact ⟨rfl, rfl⟩
    rintro E' cs' F' as' H' σ ⟨rfl, hc⟩ s w' e'
    rw [hc] at w'
    dsimp only
    refine seq_run (n := cs.length) (E := [some (.raw a), some y, none, none]) (D := { nx := fun _ _ => False, rt := fun _ _ => False, W := fun cls d _ H => E cls d H, ex := fun c p _ cs' => c = T.c_NoStep ∧ cs' = cs ∧ ∃ i' : Nat, p = .fld "index" (.d (.int (i' : Int))) ∧ (.inr i : List PyData ⊕ Nat) = .inr i' }) ?_ (Nat.le_refl _) w' e' ⟨fun _ _ _ _ _ _ h => h.elim, fun _ _ _ _ _ _ h => h.elim, fun _ _ _ _ _ _ h => h.elim, fun _ _ _ _ _ _ h => h.elim, fun c p E' cs' F' as' H' σ d h s' => exE c p E' cs' F' as' H' σ d h (s.trans s')⟩
    have hyb : ys.length = bs.length := by have := congrArg List.length h3; simpa using this
    refine ex_for cs.length (Nat.le_refl _) (ei_enumTA ?_)
    walk_at "a"
    refine ⟨rfl, y, ys, rfl, h1, Nat.le_refl _, fun j E' cs' => ∃ x2 x3, E' = [some (.raw a), some y, x2, x3] ∧ cs' = cs ∧ ∀ t, t < j → 0 + t < 12 ∧ bs[t]? = some true, ⟨none, none, rfl, rfl, fun t ht => absurd ht (Nat.not_lt_zero t)⟩, fun _ _ _ _ => trivial, ?_, ?_⟩
    · rintro j z E' cs' hz ⟨x2, x3, rfl, hc2, hb⟩
      rw [hc2]
      rw [List.getElem?_mapIdx] at hz
      obtain ⟨z1, hz1, rfl⟩ := Option.map_eq_some_iff.mp hz
      have hj := (List.getElem?_eq_some_iff.mp hz1).1
      obtain ⟨b, hb1⟩ : ∃ b, bs[j]? = some b := ⟨_, List.getElem?_eq_getElem (by omega)⟩
      have hst : stepA z1 cs = some b := by
        have := congrArg (fun l => l[j]?) h3
        simp only [List.getElem?_map, hz1, hb1, Option.map_some] at this
        exact Option.some.inj this
      refine eg_tup rfl (egs_cons (egs_cons (egs_nil ?_)))
      walk_at "a"
      by_cases c : 12 ≤ j
      · rw [show decide ((j : Int) ≥ 12) = true from decide_eq_true (by omega)]
        walk_at "a"
        refine ex_raiseO (D := { nx := _, rt := _, W := fun cls d _ H => E cls d H, ex := _, bk := _, ct := _ }) ?_
        walk_at "a"
        have := firstBad_at hb hb1 (.inl (by omega))
        rw [h5] at this
        refine ⟨_, rfl, rfl, rfl, j, rfl, by rw [Option.some.inj this, Nat.zero_add]⟩
      · rw [show decide ((j : Int) ≥ 12) = false from decide_eq_false (by omega)]
        walk_at "a"
        refine ev_isStepA ?_
        walk_at "a"
        refine ⟨_, b, rfl, hst, ?_⟩
        cases b with
        | false =>
          walk_at "a"
          refine ex_raiseO (D := { nx := _, rt := _, W := fun cls d _ H => E cls d H, ex := _, bk := _, ct := _ }) ?_
          walk_at "a"
          have := firstBad_at hb hb1 (.inr rfl)
          rw [h5] at this
          refine ⟨_, rfl, rfl, rfl, j, rfl, by rw [Option.some.inj this, Nat.zero_add]⟩
        | true =>
          walk_at "a"
          refine Cm.here ⟨_, _, rfl, rfl, fun t ht => ?_⟩
          rcases Nat.lt_succ_iff_lt_or_eq.mp ht with ht | rfl
          · exact hb t ht
          · exact ⟨by omega, hb1⟩
    · rintro E' cs' ⟨x2, x3, rfl, hc2, hb⟩
      rw [List.length_mapIdx, hyb] at hb
      rw [firstBad_none hb] at h5
      cases h5
  | @ok ds hr =>
    have hl := hr.len
    refine seq_run (n := cs.length) (E := [some (.raw a), some (.d (.tuple ds)), none, none]) (D := { nx := fun E' cs' => E' = [some (.raw a), some (.d (.tuple ds)), none, none] ∧ cs' = cs, rt := fun _ _ => False, W := fun cls d _ H => E cls d H, ex := fun c p _ cs' => False }) ?_ (Nat.le_refl _) wd e0 ⟨?_, fun _ _ _ _ _ _ h => h.elim, fun _ _ _ _ _ _ h => h.elim, fun _ _ _ _ _ _ h => h.elim, fun _ _ _ _ _ _ _ _ _ h => h.elim⟩
    · walk_at "a"
      exact ⟨rfl, rfl⟩
    rintro E' cs' F' as' H' σ ⟨rfl, hc⟩ s w' e'
    rw [hc] at w'
    dsimp only
    refine seq_run (n := cs.length) (E := [some (.raw a), some (.d (.tuple ds)), none, none]) (D := { nx := fun E' cs' => (∃ x2 x3, E' = [some (.raw a), some (.d (.tuple ds)), x2, x3]) ∧ cs' = cs, rt := fun _ _ => False, W := fun cls d _ H => E cls d H, ex := fun c p _ cs' => False }) ?_ (Nat.le_refl _) w' e' ⟨?_, fun _ _ _ _ _ _ h => h.elim, fun _ _ _ _ _ _ h => h.elim, fun _ _ _ _ _ _ h => h.elim, fun _ _ _ _ _ _ _ _ _ h => h.elim⟩
    · refine ex_for cs.length (Nat.le_refl _) (ei_enumTA ?_)
      walk_at "a"
      refine ⟨rfl, _, _, rfl, rfl, Nat.le_refl _, fun j E' cs' => (∃ x2 x3, E' = [some (.raw a), some (.d (.tuple ds)), x2, x3]) ∧ cs' = cs, ⟨⟨none, none, rfl⟩, rfl⟩, fun _ _ _ _ => trivial, ?_, ?_⟩
      · rintro j z E' cs' hz ⟨⟨x2, x3, rfl⟩, hc2⟩
        rw [hc2]
        rw [List.getElem?_mapIdx, List.getElem?_map] at hz
        obtain ⟨z1, hz1, rfl⟩ := Option.map_eq_some_iff.mp hz
        obtain ⟨d, hd, rfl⟩ := Option.map_eq_some_iff.mp hz1
        have hj := (List.getElem?_eq_some_iff.mp hd).1
        have hst := hr.st d (List.mem_of_getElem? hd)
        refine eg_tup rfl (egs_cons (egs_cons (egs_nil ?_)))
        walk_at "a"
        rw [show decide ((j : Int) ≥ 12) = false from decide_eq_false (by omega)]
        walk_at "a"
        refine ev_isStepA ?_
        walk_at "a"
        refine ⟨_, true, rfl, ?_, ?_⟩
        · unfold stepA
          show (if (SeqAt.shaped d && lenOk d) = true then some (isStepD d) else none) = some true
          have hlo : lenOk d = true := by
            cases d with
            | tuple es => exact decide_eq_true (step_len es hst)
            | _ => rfl
          rw [(step_is d hst).2.1, hlo, (step_is d hst).1]; rfl
        · walk_at "a"
          exact Cm.here ⟨⟨_, _, rfl⟩, rfl⟩
      · rintro E' cs' h
        exact h
    rintro E2 cs2 F2 as2 H2 σ2 ⟨⟨x2, x3, rfl⟩, hc2⟩ s2 w2 e2
    have k2 : H2 a = some (.ins T.c_Script dx []) := keep (s.trans s2)
    obtain ⟨va, hva, ra⟩ := e2.get 0 _ rfl
    obtain ⟨vy, hvy, ry⟩ := e2.get 1 _ rfl
    cases ra
    refine ⟨_, hvy, _, hva, a, T.c_Script, dx, [], rfl, k2, T.cl_Script, T.na_Script_kept_steps, by decide, ?_⟩
    rw [hc2] at w2
    have s02 := s.trans s2
    rw [← hlen] at s02
    exact q1 ds F2 as2 H2 vy rfl s02 w2 ry
end
end Y

/-! # a law, over pure states -/
namespace Y
open PySem L2
def spLaw (K : PySem.W.Frag) : Sp := fun vs H Q _ => ∃ (a : Addr) (ns : List Int), vs = [.ref a] ∧ SqL K H a (ns.map V.int) ∧ ns.length ≤ 63 ∧ ∀ H', Q (.bl true) H'
def ApLaw : ASp := fun xs cs k => ∃ ns : List Int, xs = [.d (.list (ns.map PyData.int))] ∧ cs = [] ∧ ns.length ≤ 63 ∧ k (.d (.bool true)) []
theorem dp_intsV {K : PySem.W.Frag} {H : Hp} : ∀ ns : List Int, DpAll K H (ns.map V.int) (ns.map PyData.int)
  | [] => .nil
  | n :: ns => .cons (.int n) (dp_intsV ns)
/-- all that stands is frozen -/
theorem Wd.whole {K : PySem.W.Frag} {C : Addr} {H : Hp} : Wd K C H [] [] H := ⟨Same.refl H, fun i own h => by simp at h, fun i j own own' h => by simp at h, fun i own h => by simp at h, rfl, fun i own c h => by simp at h, fun i own h => by simp at h, fun b o h _ => h⟩
theorem law_of {K : PySem.W.Frag} {C : Addr} {P : Program} {w : World} {mg : Str → Option Value} {base : Heap} {n : Nat} {a : Addr} {fd : FuncData} {ps : List Str} (h : FnOk P w K mg base CX0 n a fd ps (spA K C ApLaw)) : FnOk P w K mg base CX0 n a fd ps (spLaw K) := h.imp fun vs H Q E ⟨b, ns, hv, hs, hl, q⟩ => by
  subst hv
  exact ⟨H, [], [], [.d (.list (ns.map PyData.int))], fun r _ => r = .d (.bool true), Wd.whole, .cons (.d (.lst hs (dp_intsV ns))) .nil, ⟨ns, rfl, rfl, hl, rfl⟩, fun r cs' v F' as' H' hr _ _ hv => by
    subst hr
    cases hv with | d hv => rw [hv.bl_inv]; exact q H'⟩
end Y

/-! # calls that raise, over pure states -/
namespace Y
open PySem L2
local macro_rules | `(tactic| walk_at "a") => `(tactic| repeat (first
  | (with_reducible apply ev_int) | (with_reducible apply ev_str) | (with_reducible apply ev_bl) | (with_reducible apply ev_non) | (with_reducible apply ev_ty)
  | ((with_reducible apply ev_var); · rfl)
  | (with_reducible apply ev_op) | (with_reducible apply ev_un) | (with_reducible apply evs_nil) | (with_reducible apply evs_cons) | (with_reducible apply ev_cb) | (with_reducible apply ev_if)
  | (with_reducible apply et_test) | (with_reducible apply et_B) | (with_reducible apply et_and) | (with_reducible apply et_or) | (with_reducible apply et_not)
  | (with_reducible apply ex_seq) | (with_reducible apply ex_name) | (with_reducible apply ex_to) | (with_reducible apply ex_ret) | (with_reducible apply ex_if) | (with_reducible apply ex_drop) | (with_reducible apply ex_retN) | (with_reducible apply ex_next)
  | (with_reducible apply ex_par) | (with_reducible apply ex_par3) | (with_reducible apply eg_sub) | (with_reducible apply eg_name)
  | (with_reducible apply o_int) | (with_reducible apply o_bl) | (with_reducible apply o1_neg)
  | (with_reducible apply ev_andV) | (with_reducible apply ev_orV) | (with_reducible apply ev_notV)
  | (with_reducible apply ev_sl) | (with_reducible apply eo_part) | (with_reducible apply eo_no) | (with_reducible apply ev_bm) | (with_reducible apply ev_bm0)
  | (with_reducible apply ite_f) | (with_reducible apply ite_t) | (with_reducible apply ev_tupD) | (with_reducible apply ev_chain)
  | ((with_reducible apply o_ixL); (· rfl); (· rfl)) | ((with_reducible apply o_ixT); (· rfl); (· rfl))
  | ((with_reducible apply o_eq); (· rfl); (· rfl); (· rfl)) | ((with_reducible apply o_ne); (· rfl); (· rfl); (· rfl))
  | (with_reducible apply o_isN) | (with_reducible apply o_notN)
  | (with_reducible apply on_int) | (with_reducible apply on_intB) | (with_reducible apply on_max) | (with_reducible apply on_min) | (with_reducible apply on_abs)
  | ((with_reducible apply on_lenL); (· rfl)) | ((with_reducible apply on_lenT); (· rfl)) | ((with_reducible apply on_isD); (· rfl); (· decide))
  | ((with_reducible apply isSub); (· rfl); (· rfl)) | (with_reducible apply isB) | (with_reducible apply isI) | (with_reducible apply is2) | (with_reducible apply is3) | (with_reducible apply isI1) | (with_reducible apply isI2) | (with_reducible apply isT) | (with_reducible apply isL) | (with_reducible apply isScr) | ((with_reducible apply isDs); (· rfl); (· rfl))
  | ((with_reducible apply o_inT); (· rfl); (· rfl); (· decide +kernel); (· decide +kernel)) | ((with_reducible apply o_eqD); (· rfl); (· rfl); (· decide +kernel); (· decide +kernel))
  | ((with_reducible apply iteT'); · first | decide +kernel | rfl) | ((with_reducible apply iteF'); · first | decide +kernel | rfl)))
mutual
theorem AV.ren0 {ρ : Nat → Nat} : ∀ {x : AV}, AV.lt 0 x = true → x.ren ρ = x
  | .d _, _ => rfl
  | .tup xs, h => by
    have := AV.renAll0 (ρ := ρ) (xs := xs) h
    show AV.tup (AV.renAll ρ xs) = _
    rw [this]
  | .cel i, h => by simp [AV.lt] at h
  | .sub i j, h => by simp [AV.lt] at h
  | .scr _, _ => rfl
  | .ty _, _ => rfl
  | .dct, _ => rfl
  | .raw _, _ => rfl
  | .exn a e f x, h => by
    have := AV.ren0 (ρ := ρ) (x := x) h
    show AV.exn a e f (x.ren ρ) = _
    rw [this]
theorem AV.renAll0 {ρ : Nat → Nat} : ∀ {xs : List AV}, AV.ltAll 0 xs = true → AV.renAll ρ xs = xs
  | [], _ => rfl
  | x :: xs, h => by
    have h : (AV.lt 0 x && AV.ltAll 0 xs) = true := h
    rw [Bool.and_eq_true] at h
    show AV.ren ρ x :: AV.renAll ρ xs = _
    rw [AV.ren0 h.1, AV.renAll0 h.2]
end
theorem CallOk.free {xs : List AV} {cs : List Cell} (h : AV.ltAll 0 xs = true) : CallOk [] xs [] xs cs :=
  ⟨List.nodup_nil, fun i hi => absurd hi List.not_mem_nil, AV.renAll0 h, h, rfl, rfl⟩
section
variable {K : PySem.W.Frag} {C cN : Addr} {F F' H H' : Hp} {as as' : Own} {cs cs' cs1 : List Cell} {E : AEnv} {k : AV → List Cell → Prop} {x y : AV} {te : TE} {tas : TA} {X : XK} {n m : Nat} {W : WX} {ex : EX}
/-- what stands outside of the cells becomes frozen -/
theorem Wd.fin (w : Wd K C F as cs H) {p : Addr} {o : HO} (hA : ¬ inA as p) (hF : F p = none) (hH : H p = some o) : Wd K C (upd F p o) as cs H := by
  have sF : Same F (upd F p o) := Same.new hF
  refine ⟨fun b u h => ?_, fun i own hi b hb => ?_, w.sep, w.nd, w.len, fun i own c hi hc => (w.ok i own c hi hc).mono sF Pre.refl fun b hb o h => h, w.mu, fun b u h n => sF _ _ (w.tp b u h n)⟩
  · by_cases e : b = p
    · subst e; rw [upd_same] at h; cases h; exact hH
    · rw [upd_ne e] at h; exact w.fro b u h
  · have nb : b ≠ p := fun z => hA ⟨_, _, hi, z ▸ hb⟩
    rw [upd_ne nb]; exact w.dis i own hi b hb
/-- Script(y), which may raise -/
theorem evx_makeScr (h : Evs K C E cs tas fun xs cs1 => ∃ y r, xs = [y] ∧ InitOf cs1 y r ∧ (∀ ds, r = .inl ds → Row ds → k (.scr ds) cs1) ∧ ∀ i : Nat, r = .inr i → ex cN (.fld "index" (.d (.int i))) E cs1) : EvX K C W ex E cs (tMakeS C (spInitX K C cN) (WE W) tas) k := fun F as H σ Q w e z zx => by
  refine h F as H σ _ w e fun xs cs1 vs F1 as1 H1 ⟨y, r, hx, hi, hk, he⟩ s1 w1 r1 x dx nx ndx nex => ?_
  subst hx
  cases r1 with | cons r1 r2 =>
  cases r2
  have nF1 : F1 x = none := w1.fro.free nx
  have hA : ¬ inA as1 x := fun ⟨i, own, hi, hb⟩ => (w1.dis i own hi x hb).2 nx
  obtain ⟨w2, s2, sF⟩ := w1.newF ndx (.own x)
  have nxd : x ≠ dx := fun z => nex z.symm
  have nF2 : (upd F1 dx (HO.own x)) x = none := by rw [upd_ne nxd]; exact nF1
  have nH2 : (upd H1 dx (HO.own x)) x = none := by rw [upd_ne nxd]; exact nx
  have w3 := w2.out (o := .ins C dx []) hA nF2 trivial
  have s3 : Stp as1.length (upd F1 dx (HO.own x)) as1 (upd H1 dx (HO.own x)) (upd F1 dx (HO.own x)) as1 (upd (upd H1 dx (HO.own x)) x (.ins C dx [])) := by
    refine ⟨Same.refl _, fun i _ own h => ⟨[], by rw [List.append_nil]; exact h⟩, fun b o h _ => ?_, fun b h => ?_, fun b o h => .inl h, fun b h => .inl h⟩
    · have nb : b ≠ x := fun z => by rw [z, nH2] at h; cases h
      rw [upd_ne nb]; exact h
    · by_cases e : b = x
      · subst e; exact nH2
      · rw [upd_ne e] at h; exact h
  refine ⟨_, as1, cs1, y, x, dx, _, r, rfl, upd_same, hA, w3, r1.mono sF Pre.refl, hi, ?_, ?_⟩
  · rintro ds F' as' H' u rfl s w' ru
    refine ⟨rfl, ?_⟩
    have t := s2.trans (s3.trans s)
    have nA' : ¬ inA as' x := fun hh => (s.na x hh).elim hA fun e => by rw [upd_same] at e; cases e
    have nF' : F' x = none := by
      cases e : F' x with
      | none => rfl
      | some o => rcases s.nf x o e with e | e
                  · rw [nF2] at e; cases e
                  · rw [upd_same] at e; cases e
    cases hi with
    | ok hr =>
      cases ru with | d ru =>
      have w4 := (w'.out (o := .ins C dx (kf u)) nA' nF' trivial).fin nA' nF' upd_same
      have sF4 : Same F' (upd F' x (.ins C dx (kf u))) := Same.new nF'
      refine z (.scr ds) cs1 _ _ as' _ (hk ds rfl hr) (s1.tr ⟨t.f.trans sF4, t.a, fun b o h hn => ?_, fun b h => ?_, fun b o h => ?_, t.na⟩) w4 (.scr ⟨dx, u, upd_same, sF4.dp ru⟩)
      · have nb : b ≠ x := fun z => by rw [z, nx] at h; cases h
        rw [upd_ne nb]; exact t.fr b o h hn
      · by_cases e : b = x
        · subst e; exact nx
        · rw [upd_ne e] at h; exact t.dm b h
      · by_cases e : b = x
        · subst e; exact .inr nx
        · rw [upd_ne e] at h; exact t.nf b o h
  · rintro i d F' as' H' rfl s w' xr
    exact zx cN _ cs1 F' as' H' d (he i rfl) (s1.tr (s2.trans (s3.trans s))) w' xr
/-! ### indexes -/
inductive HasA (cs : List Cell) (n : Nat) : AV → Bool → Prop
  | int {i : Int} : HasA cs n (.d (.int i)) (decide (0 ≤ i ∧ i < (n : Int)))
  | no {y : AV} {t : String} : tyA y cs = some t → t ≠ "int" → HasA cs n y false
def ApHas : ASp := fun xs cs k => ∃ ds y b, xs = [.scr ds, y] ∧ HasA cs ds.length y b ∧ k (.d (.bool b)) cs
def ApGetX (cN : Addr) : ASpX := fun xs cs k kx => ∃ ds y b, xs = [.scr ds, y] ∧ cs = [] ∧ AV.lt 0 y = true ∧ HasA cs ds.length y b ∧ (b = false → kx cN (.fld "index" y) cs) ∧ ∀ (i : Nat) d, y = .d (.int i) → ds[i]? = some d → k (.d d) cs
/-- s.m(..), the arguments without cells -/
theorem ev_methF {A : ASp} {m : Str} {te : TE} (hm : m ≠ "kept_steps") (h : Ev K C E cs te fun x cs1 => IsScr x fun ds => Evs K C E cs1 tas fun xs cs2 => AV.ltAll 0 xs = true ∧ A (.scr ds :: xs) [] fun y cz' => k (y.ren (rho [] cs2.length)) (putC cs2 [] (cz'.map (Cell.ren (rho [] cs2.length))))) : Ev K C E cs (tMeth C m (spA K C A) [] X te tas) k := fun F as H σ Q w e z => by
  refine h F as H σ _ w e fun x cs1 v F1 as1 H1 ⟨ds, hx, h1⟩ s1 w1 r1 => ?_
  subst hx
  have r1' := r1
  cases r1 with | scr hs =>
  obtain ⟨dx, u, h2, h3⟩ := hs
  refine ⟨_, dx, _, rfl, w1.fro _ _ h2, kf_no _ hm, ?_⟩
  refine h1 F1 as1 H1 σ _ w1 (e.mono s1.f s1.pre) fun xs cs2 vs F2 as2 H2 ⟨hl, hA⟩ s2 w2 r2 => ?_
  rw [List.append_nil]
  refine call_core (is := []) (zs := .scr ds :: xs) (cz := []) (CallOk.free hl) w2 (.cons (r1'.mono s2.f s2.pre) r2) ?_ (Kt.later z (s1.tr s2))
  exact hA
theorem ev_callF {A : ASp} (h : Evs K C E cs tas fun xs cs2 => AV.ltAll 0 xs = true ∧ A xs [] fun y cz' => k (y.ren (rho [] cs2.length)) (putC cs2 [] (cz'.map (Cell.ren (rho [] cs2.length))))) : Ev K C E cs (tCall (spA K C A) [] X tas) k :=
  ev_call fun F as H σ Q w e z => h F as H σ Q w e fun xs cs1 v F' as' H' ⟨hl, hA⟩ => z xs cs1 v F' as' H' ⟨[], xs, [], CallOk.free hl, hA⟩
theorem calls_free {A : ASpX} {xs : List AV} {kx : KX} (hl : AV.ltAll 0 xs = true) (hA : A xs [] (fun y cz' => k (y.ren (rho [] cs.length)) (putC cs [] (cz'.map (Cell.ren (rho [] cs.length))))) fun c p cz' => kx c (p.ren (rho [] cs.length)) (putC cs [] (cz'.map (Cell.ren (rho [] cs.length))))) : Calls A xs cs k kx := ⟨[], xs, [], CallOk.free hl, hA⟩
theorem putC_nil {α : Type} (xs : List α) : putC xs [] [] = xs := by simp [putC]
theorem ev_has {m : Str} {te : TE} (hm : m ≠ "kept_steps") (h : Ev K C E cs te fun x cs1 => IsScr x fun ds => Evs K C E cs1 tas fun xs cs2 => ∃ y b, xs = [y] ∧ AV.lt 0 y = true ∧ HasA [] ds.length y b ∧ k (.d (.bool b)) cs2) : Ev K C E cs (tMeth C m (spA K C ApHas) [] X te tas) k :=
  ev_methF hm fun F as H σ Q w e z => h F as H σ Q w e fun x cs1 v F' as' H' ⟨ds, hx, hE⟩ => z x cs1 v F' as' H' ⟨ds, hx, fun F as H σ Q w e z => hE F as H σ Q w e fun xs cs2 vs F' as' H' ⟨y, b, h1, h2, h3, h4⟩ => z xs cs2 vs F' as' H' ⟨by rw [h1]; show (AV.lt 0 y && true) = true; rw [h2]; rfl, ds, y, b, by rw [h1], h3, by
    show k (.d (.bool b)) (putC cs2 [] [])
    rw [putC_nil]; exact h4⟩⟩
theorem evx_getNo {ta tb : TE} (h : Ev K C E cs ta fun x cs1 => IsScr x fun ds => Ev K C E cs1 tb fun y cs2 => AV.lt 0 y = true ∧ HasA [] ds.length y false ∧ ex cN (.fld "index" y) E cs2) : EvX K C W ex E cs (tIxOS C (spAX K C (ApGetX cN)) (WE W) ta tb) k :=
  evx_ixOS fun F as H σ Q w e z => h F as H σ Q w e fun x cs1 v F' as' H' ⟨ds, hx, hE⟩ => z x cs1 v F' as' H' ⟨ds, hx, fun F as H σ Q w e z => hE F as H σ Q w e fun y cs2 vs F' as' H' ⟨hy, hb, he⟩ => z y cs2 vs F' as' H'
    (calls_free (by show (AV.lt 0 (.scr ds) && (AV.lt 0 y && true)) = true; rw [hy]; rfl) ⟨ds, y, false, rfl, rfl, hy, hb, fun _ => by
      show ex cN (.fld "index" (y.ren _)) E (putC cs2 [] [])
      rw [AV.ren0 hy, putC_nil]; exact he, fun i d e g => by
      subst e
      have hi := (List.getElem?_eq_some_iff.mp g).1
      generalize hbb : false = b at hb
      cases hb with
      | int =>
        have := of_decide_eq_false hbb.symm
        omega
      | no h1 h2 => exact absurd (Option.some.inj h1).symm h2⟩)⟩
theorem ev_told (h : Evs K C E cs tas fun xs cs1 => ∃ ds, xs = [.scr ds, .d (.tuple ds)] ∧ Row ds ∧ k (.d (.bool true)) cs1) : Ev K C E cs (tCall (spTold K C) [] X tas) k := fun F as H σ Q w e z => by
  refine h F as H σ _ w e fun xs cs1 vs F1 as1 H1 ⟨ds, hx, hr, hk⟩ s1 w1 r1 => ?_
  show spTold K C (vs ++ []) H1 Q X
  subst hx
  cases r1 with | cons r1 r2 =>
  cases r2 with | cons r2 r3 =>
  cases r3
  cases r1 with | scr hs =>
  cases r2 with | d r2 =>
  obtain ⟨dx, u, h2, h3⟩ := hs
  have hl := hr.len
  exact ⟨_, _, ds, rfl, ⟨dx, u, w1.fro _ _ h2, w1.fro.dp h3⟩, w1.fro.dp r2, hr.st, by omega, fun H' s => (Kt.later z s1).same w1 s hk (.d (.bl true))⟩
theorem ev_isTD2 {te : TE} {a b : String} (hl : ∀ c ∈ [a, b], c ∈ ["bool", "int", "str", "list", "tuple", "dict"]) (h : Ev K C E cs te fun x cs1 => ∃ s, tyA x cs1 = some s ∧ k (.d (.bool ([a, b].any (isTy s)))) cs1) : Ev K C E cs (tCB (rIsTD K) (tCons te (tCons (tTup (tCons (tC (.ty a)) (tCons (tC (.ty b)) tNil))) tNil))) k := fun F as H σ Q w e z => by
  refine h F as H σ _ w e fun x cs1 v F1 as1 H1 ⟨s, h1, hk⟩ s1 w1 r1 => ?_
  refine ⟨line_of (Nat.le_of_ble_eq_true rfl), fun p hp => ?_⟩
  have hF : F1 p = none := w1.fro.free hp
  obtain ⟨w2, s2, sF⟩ := w1.newF hp (.tup [.ty a, .ty b])
  obtain ⟨t1, t2⟩ := tyA_at h1 w2 (r1.mono sF Pre.refl)
  exact ⟨v, p, [a, b], s, rfl, upd_same, t1, t2, hl, (Kt.later z (s1.tr s2)).now hk w2 (.d (.bl _))⟩
/-- == of any values that are the same -/
def rEqU (K : PySem.W.Frag) : R2 := fun x y H Q => rEqA K x y H Q ∨ rEqDA x y H Q
theorem op_eqUK {X : Cx} (K : PySem.W.Frag) (hu : X.A.units + 65 < cLine) (hK : X.K = K := by rfl) : OpR X (compareOp .Eq) (rEqU K) := (op_eqAK K hu hK).or (op_eq_dictA (by omega))
theorem o_eqU1 (h : O2 K C (rEqA K) x y cs k) : O2 K C (rEqU K) x y cs k := fun F as H v u Q w r1 r2 q => .inl (h F as H v u Q w r1 r2 q)
theorem o_eqU2 (h : k (.d (.bool true)) cs) : O2 K C (rEqU K) .dct .dct cs k := fun F as H v u Q w r1 r2 q => by
  cases r1 with | dct r1 =>
  cases r2 with | dct r2 =>
  exact .inr ⟨_, _, [], [], rfl, rfl, w.fro _ _ r1, w.fro _ _ r2, rfl, fun p hp => absurd hp List.not_mem_nil, q.now h w (.d (.bl true))⟩
/-- list(a tuple), only read: frozen -/
theorem on_lstTF {ds : List PyData} (h1 : tupOf x = some ds) (h : k (.d (.list ds)) cs) : On K C (rLstOf K) [x] cs k := fun F as H vs Q w r q => by
  cases r with | cons r1 r2 =>
  cases r2
  obtain ⟨p, xs, rfl, h3, h4, _⟩ := tupOf_at h1 w r1
  exact ⟨p, xs, rfl, .inr h3, fun b hb => q.frz w hb h (.d (.lstOf upd_same ((Same.new (w.fro.free hb)).dpAll h4)))⟩
/-- tuple * int -/
theorem op_repTK {X : Cx} (K : PySem.W.Frag) (hK : X.K = K := by rfl) : OpR X (binaryOp .Mult) (rRepT K) := by subst hK; exact op_repT
theorem rep_dp {xs : List V} {ds : List PyData} (h : DpAll K F xs ds) : ∀ m : Nat, DpAll K F (List.replicate m xs).flatten (List.replicate m ds).flatten
  | 0 => .nil
  | m + 1 => by
    rw [List.replicate_succ, List.replicate_succ, List.flatten_cons, List.flatten_cons]
    exact h.append (rep_dp h m)
theorem o_repT {ds : List PyData} {i : Int} (h1 : tupOf x = some ds) (hne : ds ≠ []) (h2 : 2 ≤ i) (h3 : i ≤ 1000) (hl : ds.length ≤ 1000) (h : k (.d (.tuple (List.replicate i.toNat ds).flatten)) cs) : O2 K C (rRepT K) x (.d (.int i)) cs k := fun F as H v u Q w r1 r2 q => by
  obtain ⟨p, xs, rfl, h3', h4, h5⟩ := tupOf_at h1 w r1
  refine ⟨p, i, xs, rfl, r2.int, h3', fun e => ?_, h2, h3, by rw [h4.length]; exact hl, fun b hb => q.frz w hb h (.d (.tupOf upd_same ((Same.new (w.fro.free hb)).dpAll (rep_dp h4 _))))⟩
  subst e
  have := h4.length
  exact hne (List.eq_nil_of_length_eq_zero this.symm)
/-- a tuple of any values beside another -/
theorem o_catU {xs ys : List AV} (h1 : itemsT x = some xs) (h2 : itemsT y = some ys) (hl : xs.length + ys.length ≤ 100000) (h : k (.tup (xs ++ ys)) cs) : O2 K C (rCatA K) x y cs k := fun F as H v u Q w r1 r2 q => by
  obtain ⟨p, vs, rfl, h3, h4⟩ := itemsT_at h1 w r1
  obtain ⟨p', vs', rfl, h3', h4'⟩ := itemsT_at h2 w r2
  refine ⟨p, p', vs, vs', rfl, rfl, w.fro.sqT h3, w.fro.sqT h3', line_of (by rw [← h4.length, ← h4'.length]; exact hl), fun e => ?_, fun _ e => ?_, fun _ _ b hb => ?_⟩
  · subst e
    cases h4
    exact q.now h w (.tup h3' h4')
  · subst e
    cases h4'
    rw [List.append_nil] at h
    exact q.now h w (.tup h3 h4)
  · exact q.frz w hb h (.tup (SqT.of upd_same) ((h4.append h4').mono (Same.new (w.fro.free hb)) Pre.refl))
end
section
variable {P : Program} {w : World} {K : PySem.W.Frag} {mg : Str → Option Value} {base : Heap}
theorem oa_has (T : Tx K mg) : FnOk P w K mg base CX0 2 T.Script_has.a T.Script_has.fd ["self", "index"] (spA K T.c_Script ApHas) := (ok_Script_has T).imp fun vs H Q E h => by
  obtain ⟨F, as, cs, xs, k, wd, ar, ⟨ds, y, b, rfl, hb, hk⟩, q⟩ := spA_kt h
  cases ar with | cons r1 r2 =>
  cases r2 with | cons r2 r3 =>
  cases r3
  cases r1 with | scr hs =>
  obtain ⟨dx, u, h2, h3⟩ := hs
  cases hb with
  | int =>
    rename_i i
    cases r2 with | d r2 =>
    obtain rfl := r2.int_inv
    exact ⟨_, ds, _, "int", rfl, ⟨dx, u, wd.fro _ _ h2, wd.fro.dp h3⟩, .base (.int _), by decide, fun n => absurd rfl n, fun j hj => by cases hj; exact q.now hk wd (.d (.bl _))⟩
  | no ht hn =>
    obtain ⟨t1, t2⟩ := tyA_at ht wd r2
    refine ⟨_, ds, _, _, rfl, ⟨dx, u, wd.fro _ _ h2, wd.fro.dp h3⟩, t1, t2, fun _ => q.now hk wd (.d (.bl _)), fun j hj => ?_⟩
    subst hj
    cases t1 with | base t1 =>
    cases t1
    exact absurd rfl hn
end
end Y

/-! # comprehensions over data; the shape of data -/
namespace Y
open PySem L2
section
variable {K : PySem.W.Frag} {C : Addr} {F F' H H' : Hp} {as as' : Own} {E : AEnv} {cs cs' : List Cell} {k : AV → List Cell → Prop}
variable {ta tb te tc : TE} {tas tar : TA} {n m : Nat} {D : AEnds} {vs : List Nat} {cs1 : List Cell}
theorem line_ltW {n : Nat} (h : n < 10000000) : n < sizeLine := Nat.lt_of_lt_of_le h (by decide)
/-- [e for g in wi if tt]: the items are data, many of them -/
theorem ev_lcW {k : AV → List Cell → Prop} {wi : TI} {g : TG} {tt : TT} (m : Nat) (h : Evi K C m E cs wi fun items ok cs1 => m = cs1.length ∧ items.length ≤ 9999999 ∧ ∃ Iv : Nat → List PyData → List Cell → Prop, Iv 0 [] cs1 ∧ (∀ i acc cs', Iv i acc cs' → ok cs') ∧
      (∀ i y acc cs', items[i]? = some y → Iv i acc cs' → EgC K C vs (wipeE E vs) y cs' g fun E2 cs2 => Evt K C E2 cs2 tt fun b cs3 =>
        if b = true then Ev K C E2 cs3 te fun z cs4 => ∃ d, z = .d d ∧ Cl m (fun _ => Iv (i + 1) (acc ++ [d])) [] cs4 else Cl m (fun _ => Iv (i + 1) acc) [] cs3) ∧
      ∀ acc cs', Iv items.length acc cs' → k (.cel cs'.length) (cs' ++ [.l acc])) : Ev K C E cs (tLc wi g tt te vs) k := fun F as H σ Q w e z => by
  refine h F as H σ _ w e fun items ok cs1 F1 as1 H1 J ⟨hm, hlen, Iv, h0, hok, hstep, hend⟩ s1 w1 src => ?_
  subst hm
  intro L hL
  have hL1 : F1 L = none := w1.fro.free hL
  have hLA : ¬ inA as1 L := fun ⟨i, own, hi, hb⟩ => (w1.dis i own hi L hb).2 hL
  have e1 := (e.mono s1.f s1.pre).wipe vs
  have sL : Stp cs1.length F1 as1 H1 F1 as1 (upd H1 L (.lst [])) := ⟨Same.refl F1, fun i _ own h => ⟨[], by rw [List.append_nil]; exact h⟩, fun b o h _ => (Same.new hL) b o h, fun b h => (Wd.newF.updN0 h).2, fun b o h => .inl h, fun b h => .inl h⟩
  refine ⟨fun i mm H => i + mm = items.length ∧ ∃ acc xs cs' F' as', Iv i acc cs' ∧ acc.length ≤ i ∧ Stp cs1.length F1 as1 H1 F' as' H ∧ Wd K C F' as' cs' H ∧ ¬ inA as' L ∧ F' L = none ∧ H L = some (.lst xs) ∧ DpAll K F' xs acc,
    ⟨items.length, by omega, [], [], cs1, F1, as1, h0, Nat.le_refl 0, sL, w1.out hLA hL1 trivial, hLA, hL1, upd_same, .nil⟩, ?_⟩
  rintro i mm H ⟨him, acc, xs, cs', F', as', hI, hal, sI, wI, nA, nF, hx, hxs⟩
  cases mm with
  | zero =>
    have hi : i = items.length := by omega
    subst hi
    refine .inl ⟨src.stop F' as' cs' H (hok _ _ _ hI) sI wI, ?_⟩
    have w2 := wI.adopt nA nF hx trivial (c := .l acc) (.l hx hxs)
    refine z _ _ _ F' _ H (hend acc cs' hI) ?_ w2 (.cel (r := []) ?_)
    · have sI' : Stp as1.length F1 as1 H1 F' as' H := sI.weak (by rw [w1.len]; exact Nat.le_refl _)
      have t := s1.tr sI'
      refine ⟨t.f, fun i hi own ho => ?_, t.fr, t.dm, t.nf, fun b ⟨i, own, hi, hb⟩ => ?_⟩
      · obtain ⟨r, hr⟩ := t.a i hi own ho
        exact ⟨r, by rw [List.getElem?_append_left (List.getElem?_eq_some_iff.mp hr).1]; exact hr⟩
      · rcases get_snoc hi with hi | ⟨rfl, rfl⟩
        · exact t.na b ⟨i, own, hi, hb⟩
        · rw [List.mem_singleton.mp hb]; exact .inr (s1.dm L hL)
    · rw [← wI.len, List.getElem?_append_right (Nat.le_refl _)]; simp
  | succ mm =>
    obtain ⟨y, hy⟩ : ∃ y, items[i]? = some y := ⟨_, List.getElem?_eq_getElem (by omega)⟩
    obtain ⟨hgo, hy2⟩ := src.turn i y F' as' cs' H hy (hok _ _ _ hI) sI wI
    refine .inr ⟨hgo, fun H' => (i + 1) + mm = items.length ∧ ∃ acc xs cs' F' as', Iv (i + 1) acc cs' ∧ acc.length ≤ i + 1 ∧ Stp cs1.length F1 as1 H1 F' as' H' ∧ Wd K C F' as' cs' H' ∧ ¬ inA as' L ∧ F' L = none ∧ H' L = some (.lst xs) ∧ DpAll K F' xs acc, fun H' h => ⟨mm, by omega, h⟩, fun x H2 hx2 => ?_⟩
    obtain ⟨F2, s2, w2, r2⟩ := hy2 x H2 hx2
    have hmI : cs1.length ≤ as'.length := sI.len (by rw [w1.len]; exact Nat.le_refl _)
    -- the outer list through a step
    have keepL : ∀ {F3 as3 H3}, Stp as'.length F' as' H F3 as3 H3 → ¬ inA as3 L ∧ F3 L = none ∧ H3 L = some (.lst xs) := fun {F3 as3 H3} t =>
      ⟨fun q => (t.na L q).elim nA fun q => by (rw [hx] at q; cases q), nonF t nF hx, t.fr L _ hx nA⟩
    have eI : EnvR K C F2 as' (wipeE E vs) (wipe σ vs) := ⟨e1.len, fun i x h => by
      obtain ⟨v, g1, g2⟩ := e1.get i x h
      refine ⟨v, g1, (g2.mono sI.f ?_).mono s2.f s2.pre⟩
      intro i own ho
      exact sI.a i (by rw [← w1.len]; exact (List.getElem?_eq_some_iff.mp ho).1) own ho⟩
    refine hstep i y acc cs' hy hI F2 as' H2 _ _ x _ w2 eI r2 wipe_wipe fun E3 σ3 h3 e3 hw3 => ⟨hw3, ?_⟩
    refine h3 F2 as' H2 σ3 _ w2 e3 fun b cs3 F3 as3 H3 h4 s3 w3 => ?_
    have s13 := s2.tr s3
    cases b with
    | false =>
      obtain ⟨ms, j, _, hj, _, hc, hp⟩ := h4
      obtain ⟨q1, q2, q3⟩ := keepL s13
      refine ⟨by omega, acc, xs, cs3.take j, F3, as3.take j, hp, by omega, ((sI.trans (s13.weak hmI)).cut hj), w3.cut (fun c hc' => ltC_get hc hc'), fun ⟨i, own, hi, hb⟩ => q1 ⟨i, own, (get_take hi).1, hb⟩, q2, q3, (s13.f).dpAll hxs⟩
    | true =>
      refine h4 F3 as3 H3 σ3 _ w3 (e3.mono s3.f s3.pre) fun zv cs4 v F4 as4 H4 ⟨dd, hz, h5⟩ s4 w4 r4 => ?_
      subst hz
      cases r4 with | d r4 =>
      have s14 := s13.tr s4
      obtain ⟨q1, q2, q3⟩ := keepL s14
      have hxl := hxs.length
      obtain ⟨ms, j, _, hj, _, hc, hp⟩ := h5
      have w5 := w4.cut (n := j) (fun c hc' => ltC_get hc hc')
      have q1' : ¬ inA (as4.take j) L := fun ⟨i, own, hi, hb⟩ => q1 ⟨i, own, (get_take hi).1, hb⟩
      refine ⟨xs, q3, line_ltW (by omega), by omega, acc ++ [dd], _, cs4.take j, F4, as4.take j, hp, by rw [List.length_append]; simp; omega, ?_, w5.out q1' q2 trivial, q1', q2, upd_same, (s14.f.dpAll hxs).snoc r4⟩
      have t := (sI.trans (s14.weak hmI)).cut hj
      exact ⟨t.f, t.a, fun b o h n => by
        have nz : b ≠ L := fun q => by rw [q, hL] at h; cases h
        rw [upd_ne nz]; exact t.fr b o h n, fun b h => t.dm b (Wd.newF.updN0 h).2, t.nf, t.na⟩
/-- [e for x in data if test], nothing changes -/
theorem ev_lcL {te : TE} {wi : TI} {g : TG} {tt : TT} {vs : List Nat} (m : Nat) (h : Evi K C m E cs wi fun items ok cs1 => cs1.length = m ∧ ∃ (ds : List PyData) (f : PyData → Bool) (v : PyData → PyData), items = ds.map AV.d ∧ ds.length ≤ 9999999 ∧ ok cs1 ∧ ltC m cs1 = true ∧
      (∀ d, d ∈ ds → EgC K C vs (wipeE E vs) (.d d) cs1 g fun E2 cs2 => Evt K C E2 cs2 tt fun b cs3 => b = f d ∧ cs3.take m = cs1 ∧ (b = true → Ev K C E2 cs3 te fun z cs4 => z = .d (v d) ∧ cs4.take m = cs1)) ∧
      k (.cel m) (cs1 ++ [.l ((ds.filter f).map v)])) : Ev K C E cs (tLc wi g tt te vs) k := by
  refine ev_lcW m fun F as H σ R w e q => h F as H σ R w e fun items ok cs1 F1 as1 H1 J ⟨hl, ds, f, v, hit, hz, hok, hlt, hstep, hk⟩ => q items ok cs1 F1 as1 H1 J ⟨hl.symm, by rw [hit, List.length_map]; exact hz, fun i acc cs' => cs' = cs1 ∧ acc = ((ds.take i).filter f).map v, ⟨rfl, rfl⟩, fun i acc cs' hi => by rw [hi.1]; exact hok, ?_, ?_⟩
  · rintro i y acc cs' hy ⟨rfl, rfl⟩
    rw [hit, List.getElem?_map] at hy
    obtain ⟨d, hd, rfl⟩ := Option.map_eq_some_iff.mp hy
    have htk : ds.take (i + 1) = ds.take i ++ [d] := by rw [List.take_add_one, hd]; rfl
    intro F as H σ0 σ v' Q w e r hw q
    refine hstep d (List.mem_of_getElem? hd) F as H σ0 σ v' Q w e r hw fun E' σ' hE e' hw' => q E' σ' ?_ e' hw'
    intro F as H σ Q w e z
    refine hE F as H σ Q w e fun b cs3 F' as' H' ⟨hb, h3, h4⟩ => z b cs3 F' as' H' ?_
    cases b with
    | false =>
      refine ite_f ⟨[], m, rfl, Nat.le_refl m, rfl, by rw [h3]; exact hlt, h3, ?_⟩
      rw [htk, List.filter_append, List.filter_cons_of_neg (by rw [← hb]; decide)]; simp
    | true =>
      refine ite_t fun F as H σ Q w e z => h4 rfl F as H σ Q w e fun z' cs4 v' F' as' H' ⟨hz', h5⟩ => z z' cs4 v' F' as' H' ⟨v d, hz', [], m, rfl, Nat.le_refl m, rfl, by rw [h5]; exact hlt, h5, ?_⟩
      rw [htk, List.filter_append, List.filter_cons_of_pos (by rw [← hb])]; simp
  · rintro acc cs' ⟨rfl, rfl⟩
    rw [hit, List.length_map, List.take_length, hl]; exact hk
end
/-! ### the shape of rows and faults -/
def Flat (n : Nat) (d : PyData) : Prop := PyData.canLay0 d = true ∧ PyData.depth d ≤ n
theorem flat_all {n : Nat} : ∀ {ds : List PyData}, (∀ d ∈ ds, Flat n d) → PyData.canLayAll0 ds = true ∧ PyData.depthAll ds ≤ n
  | [], _ => ⟨rfl, Nat.zero_le _⟩
  | d :: ds, h => by
    obtain ⟨h1, h2⟩ := flat_all (ds := ds) fun x hx => h x (List.mem_cons_of_mem _ hx)
    obtain ⟨h3, h4⟩ := h d (List.mem_cons_self ..)
    refine ⟨by rw [PyData.canLayAll0, h3, h1]; rfl, ?_⟩
    rw [PyData.depthAll]; omega
theorem flat_list {n : Nat} {ds : List PyData} (h : ∀ d ∈ ds, Flat n d) : Flat (n + 1) (.list ds) := by
  obtain ⟨h1, h2⟩ := flat_all h
  exact ⟨by rw [PyData.canLay0]; exact h1, by rw [PyData.depth]; omega⟩
theorem flat_tup {n : Nat} {ds : List PyData} (h : ∀ d ∈ ds, Flat n d) : Flat (n + 1) (.tuple ds) := by
  obtain ⟨h1, h2⟩ := flat_all h
  exact ⟨by rw [PyData.canLay0]; exact h1, by rw [PyData.depth]; omega⟩
theorem Flat.shaped {n : Nat} {d : PyData} (h : Flat n d) (hn : n ≤ 64) : SeqAt.shaped d = true := by
  unfold SeqAt.shaped
  rw [h.1, decide_eq_true (Nat.le_trans h.2 hn)]; rfl
theorem Flat.mono {n m : Nat} {d : PyData} (h : Flat n d) (hn : n ≤ m) : Flat m d := ⟨h.1, Nat.le_trans h.2 hn⟩
theorem flt_int {i : Int} : Flat 0 (.int i) := ⟨rfl, Nat.le_refl _⟩
theorem flat_bool {i : Bool} : Flat 0 (.bool i) := ⟨rfl, Nat.le_refl _⟩
theorem Flat.eqv {n : Nat} {d : PyData} (h : Flat n d) : PyData.eqv d d = true := SeqAt.eqv_refl d h.1
end Y

/-! # texts split and joined, enumerate, over pure states -/
namespace Y
open PySem L2
section
variable {K : PySem.W.Frag} {C : Addr} {F F' H H' : Hp} {as as' : Own} {E : AEnv} {cs cs1 : List Cell} {tas : TA} {to ti : TE} {k : AV → List Cell → Prop} {X : XK} {n m : Nat}
theorem strs_of : ∀ ys : List Str, DpAll K F (ys.map V.str) (ys.map PyData.str)
  | [] => .nil
  | y :: ys => .cons (.str y) (strs_of ys)
theorem strs_dp : ∀ {ys : List Str} {vs : List V}, DpAll K F vs (ys.map PyData.str) → vs = ys.map V.str
  | [], vs, h => by cases h; rfl
  | y :: ys, vs, h => by cases h with | cons h1 h2 => rw [h1.str_inv, strs_dp h2]; rfl
/-- text.split(sep) -/
theorem ev_split (h : Ev K C E cs to fun x cs1 => ∃ a : Str, x = .d (.str a) ∧ Ev K C E cs1 ti fun y cs2 => ∃ b : Str, y = .d (.str b) ∧ (b.length == 0) = false ∧ a.length ≤ 100000 ∧ k (.cel cs2.length) (cs2 ++ [.l ((Txt.split a b).map PyData.str)])) :
    Ev K C E cs (tM1 (fun x xs H Q => ∃ a b, x = .str a ∧ xs = [.str b] ∧ (b.length == 0) = false ∧ a.length + 2 ≤ sizeLine ∧ rNewStrs (Txt.split a b) H Q) to ti) k := fun F as H σ Q w e z => by
  refine h F as H σ _ w e fun x cs1 v F1 as1 H1 ⟨a, hx, h1⟩ s1 w1 r1 => ?_
  subst hx
  refine ⟨⟨a, r1.str⟩, ?_⟩
  refine h1 F1 as1 H1 σ _ w1 (e.mono s1.f s1.pre) fun y cs2 u F2 as2 H2 ⟨b, hy, hb, hl, hk⟩ s2 w2 r2 => ?_
  subst hy
  refine ⟨a, b, r1.str, by rw [r2.str], hb, Nat.le_trans (show a.length + 2 ≤ 100002 by omega) (by decide), fun p hp => ?_⟩
  exact Kt.cell (fun a b c _ _ _ g t => z a b c _ _ _ g ((s1.tr s2).tr t)) w2 hp trivial (.l upd_same (strs_of _)) hk
/-- sep.join(list or tuple of texts) -/
theorem ev_join (h : Ev K C E cs to fun x cs1 => ∃ a : Str, x = .d (.str a) ∧ Ev K C E cs1 ti fun y cs2 => ∃ ys : List Str, (lstOf y cs2 = some (ys.map PyData.str) ∨ tupOf y = some (ys.map PyData.str)) ∧ (ys.map (·.length)).sum + ys.length * a.length ≤ 16777216 ∧ k (.d (.str (Txt.join a ys))) cs2) :
    Ev K C E cs (tM1 (rJoin K) to ti) k := fun F as H σ Q w e z => by
  refine h F as H σ _ w e fun x cs1 v F1 as1 H1 ⟨a, hx, h1⟩ s1 w1 r1 => ?_
  subst hx
  refine ⟨⟨a, r1.str⟩, ?_⟩
  refine h1 F1 as1 H1 σ _ w1 (e.mono s1.f s1.pre) fun y cs2 u F2 as2 H2 ⟨ys, hy, hl, hk⟩ s2 w2 r2 => ?_
  rcases hy with hy | hy
  · obtain ⟨p, xs, rfl, h3, h4⟩ := lstOf_at hy w2 r2
    exact ⟨a, p, ys, r1.str, rfl, .inl (by rw [← strs_dp h4]; exact h3), hl, z _ cs2 _ F2 as2 H2 hk (s1.tr s2) w2 (.d (.str _))⟩
  · obtain ⟨p, xs, rfl, h3, h4, _⟩ := tupOf_at hy w2 r2
    exact ⟨a, p, ys, r1.str, rfl, .inr (by rw [← strs_dp h4]; exact h3), hl, z _ cs2 _ F2 as2 H2 hk (s1.tr s2) w2 (.d (.str _))⟩
/-- for i, d in enumerate(a list cell) -/
theorem ei_enumC {ki : List AV → (List Cell → Prop) → List Cell → Prop} (j : Nat) (hj : j < m) (h : Evs K C E cs tas fun xs cs1 => xs = [.cel j] ∧ ∃ ds, cs1[j]? = some (.l ds) ∧ ki (ds.mapIdx fun i d => .d (.tuple [.int (i : Nat), d])) (fun cs2 => cs2[j]? = some (.l ds)) cs1) : Evi K C m E cs (iEnum K tas) ki := fun F as H σ R w e q => by
  refine h F as H σ _ w e fun xs cs1 vs F1 as1 H1 ⟨hx, ds, hc, h1⟩ s1 w1 r1 => ?_
  subst hx
  cases r1 with | cons r1 r2 =>
  cases r2
  cases r1 with | @cel _ p qs hp =>
  obtain ⟨rfl, us, hH, hd⟩ := w1.lst hp hc
  refine ⟨p, us, rfl, SqL.of hH, q _ _ cs1 F1 as1 H1 _ h1 s1 w1 ⟨fun t y F2 as2 cs2 H2 ht hok s2 w2 => ?_, fun F2 as2 cs2 H2 hok s2 w2 => ?_⟩⟩
  · obtain ⟨r, hr⟩ := s2.a j hj _ hp
    obtain ⟨_, vs2, hH2, hd2⟩ := w2.lst hr hok
    rw [List.getElem?_mapIdx] at ht
    obtain ⟨d, hdd, rfl⟩ := Option.map_eq_some_iff.mp ht
    obtain ⟨v, hv, rv⟩ := (ARs.data (C := C) (as := as2) hd2).get (i := t) (x := .d d) (by rw [List.getElem?_map, hdd]; rfl)
    have hs2 : SqL K H2 p vs2 := SqL.of hH2
    refine ⟨⟨vs2, v, hs2, hv⟩, fun x H' ⟨T, u, e1, e2, e3, e4⟩ => ?_⟩
    have hu := e4 vs2 hs2
    rw [hv] at hu; cases hu
    subst e1 e3
    obtain ⟨w3, s3, sF⟩ := w2.newF e2 (.tup [.int (t : Nat), v])
    cases rv with | d rv =>
    exact ⟨_, s3, w3, .d (.tupOf upd_same (.cons (.int _) (.cons (sF.dp rv) .nil)))⟩
  · obtain ⟨r, hr⟩ := s2.a j hj _ hp
    obtain ⟨_, vs2, hH2, hd2⟩ := w2.lst hr hok
    exact ⟨vs2, SqL.of hH2, by rw [List.length_mapIdx, hd2.length]; exact Nat.le_refl _⟩
variable {kg : AEnv → List Cell → Prop}
end
end Y

set_option pp.deepTerms false
set_option pp.deepTerms.threshold 8
/-! # texts and their parts (pure) -/
namespace Y
open PySem L2
theorem pre_len {S l : List Nat} (h : TL.pre S l = true) : S.length ≤ l.length := by
  have e : l.take S.length = S := by simpa [TL.pre] using h
  have := congrArg List.length e
  rw [List.length_take] at this
  omega
theorem spl_all {S : List Nat} (hS : S ≠ []) : ∀ (n : Nat) (l acc : List Nat), l.length ≤ n →
    1 ≤ (TL.spl S 0 acc l).length ∧ ((TL.spl S 0 acc l).map List.length).sum + ((TL.spl S 0 acc l).length - 1) * S.length ≤ acc.length + l.length ∧ ∀ p ∈ TL.spl S 0 acc l, ∀ c ∈ p, c ∈ acc ∨ c ∈ l := by
  intro n
  induction n with
  | zero =>
    intro l acc h
    have : l = [] := List.eq_nil_of_length_eq_zero (by omega)
    subst this
    rw [TL.spl_nil]
    exact ⟨Nat.le_refl _, by simp, fun p hp c hc => .inl (by rw [List.mem_singleton.mp hp] at hc; exact hc)⟩
  | succ n ih =>
    intro l acc h
    cases l with
    | nil =>
      rw [TL.spl_nil]
      exact ⟨Nat.le_refl _, by simp, fun p hp c hc => .inl (by rw [List.mem_singleton.mp hp] at hc; exact hc)⟩
    | cons c r =>
      have hr : r.length ≤ n := by simpa using h
      cases hp : TL.pre S (c :: r) with
      | true =>
        rw [TL.spl_hit hp, TL.spl_pass]
        have hl := pre_len hp
        rw [List.length_cons] at hl
        have h0 : 1 ≤ S.length := by
          cases S with
          | nil => exact absurd rfl hS
          | cons a b => simp
        obtain ⟨i1, i2, i3⟩ := ih (r.drop (S.length - 1)) [] (by rw [List.length_drop]; omega)
        rw [List.length_drop, List.length_nil] at i2
        refine ⟨by simp, ?_, ?_⟩
        · rw [List.map_cons, List.sum_cons, List.length_cons, List.length_cons, Nat.add_sub_cancel]
          obtain ⟨m, hm⟩ : ∃ m, (TL.spl S 0 [] (r.drop (S.length - 1))).length = m + 1 := ⟨_, (Nat.sub_add_cancel i1).symm⟩
          rw [hm] at i2 ⊢
          rw [Nat.add_sub_cancel] at i2
          rw [Nat.add_mul, Nat.one_mul]
          omega
        · intro p hp2 d hd
          rcases List.mem_cons.mp hp2 with rfl | hp2
          · exact .inl hd
          · rcases i3 p hp2 d hd with z | z
            · exact absurd z List.not_mem_nil
            · exact .inr (List.mem_cons_of_mem _ (List.mem_of_mem_drop z))
      | false =>
        rw [TL.spl_miss hp]
        obtain ⟨i1, i2, i3⟩ := ih r (acc ++ [c]) hr
        refine ⟨i1, ?_, fun p hp2 d hd => ?_⟩
        · rw [List.length_append, List.length_singleton] at i2
          rw [List.length_cons]; omega
        · rcases i3 p hp2 d hd with z | z
          · rcases List.mem_append.mp z with z | z
            · exact .inl z
            · exact .inr (by rw [List.mem_singleton.mp z]; exact List.mem_cons_self ..)
          · exact .inr (List.mem_cons_of_mem _ z)
/-- plain signs alone -/
def Asc (s : Str) : Prop := ∀ c ∈ TL.tl s, c < 128
structure TxS (n : Nat) (s : Str) : Prop where
  len : s.length ≤ n
  ok : Asc s
theorem Asc.strOk {s : Str} (h : Asc s) : PyData.strOk s = true := by
  show s.cps.all (· < 0x110000) = true
  rw [← Array.all_toList, List.all_eq_true]
  intro c hc
  have := h c hc
  exact decide_eq_true (by omega)
theorem TxS.mono {n m : Nat} {s : Str} (h : TxS n s) (hn : n ≤ m) : TxS m s := ⟨Nat.le_trans h.len hn, h.ok⟩
theorem Asc.app {a b : Str} (h : Asc a) (g : Asc b) : Asc (a ++ b) := fun c hc => by
  rw [TL.tl_append] at hc
  exact (List.mem_append.mp hc).elim (h c) (g c)
theorem len_app (a b : Str) : (a ++ b).length = a.length + b.length := by
  rw [TL.len_tl, TL.tl_append, List.length_append, ← TL.len_tl, ← TL.len_tl]
theorem TxS.app {n m : Nat} {a b : Str} (h : TxS n a) (g : TxS m b) : TxS (n + m) (a ++ b) := ⟨by rw [len_app]; have := h.len; have := g.len; omega, h.ok.app g.ok⟩
theorem TxS.slice {n : Nat} {a : Str} (h : TxS n a) (l u : Option Int) : TxS n (Txt.slice a l u) := ⟨Nat.le_trans (Txt.slice_le a l u) h.len, fun c hc => by
  unfold Txt.slice at hc
  split at hc
  · exact h.ok c hc
  · have hc : c ∈ (Builtin.Str.strSliceIndices l u 1 a.length).filterMap (a.cps[·]?) := hc
    obtain ⟨i, _, hi⟩ := List.mem_filterMap.mp hc
    refine h.ok c ?_
    show c ∈ a.cps.toList
    rw [← Array.getElem?_toList] at hi
    exact List.mem_of_getElem? hi⟩
theorem idx_le (m n : Nat) : (Builtin.Str.strSliceIndices none (some (m : Int)) 1 n).length ≤ m := by
  unfold Builtin.Str.strSliceIndices sliceRange
  simp only [show (1 : Int) > 0 by decide, if_true, List.length_map, List.length_range]
  split
  · simp only [Int.ediv_one]; omega
  · omega
theorem TxS.sliceTo {n : Nat} {a : Str} (h : TxS n a) (m : Nat) : TxS m (Txt.slice a none (some (m : Int))) := ⟨by
  have e := idx_le m a.length
  unfold Txt.slice
  split
  · rename_i c
    have c : (Builtin.Str.strSliceIndices none (some (m : Int)) 1 a.length).length = a.length := by simpa using c
    omega
  · show (((Builtin.Str.strSliceIndices none (some (m : Int)) 1 a.length).filterMap (a.cps[·]?)).toArray).size ≤ m
    rw [List.size_toArray]
    exact Nat.le_trans (List.length_filterMap_le _ _) e, (h.slice none (some (m : Int))).ok⟩
theorem TxS.char {c : Nat} (h : c < 128) : TxS 1 ⟨#[c]⟩ := ⟨Nat.le_refl 1, fun d hd => by
  have hd : d ∈ [c] := hd
  rw [List.mem_singleton.mp hd]; exact h⟩
theorem joinL_all (S : List Nat) : ∀ ps : List (List Nat), (TL.joinL S ps).length ≤ (ps.map List.length).sum + ps.length * S.length ∧ ∀ c ∈ TL.joinL S ps, c ∈ S ∨ ∃ p ∈ ps, c ∈ p
  | [] => ⟨by simp [TL.joinL], fun c hc => absurd hc (by simp [TL.joinL])⟩
  | [p] => ⟨by simp [TL.joinL], fun c hc => .inr ⟨p, List.mem_singleton.mpr rfl, hc⟩⟩
  | p :: q :: r => by
    obtain ⟨h1, h2⟩ := joinL_all S (q :: r)
    constructor
    · show (p ++ (S ++ TL.joinL S (q :: r))).length ≤ _
      rw [List.length_append, List.length_append, List.map_cons, List.sum_cons, List.length_cons, Nat.add_mul, Nat.one_mul]
      omega
    · intro c hc
      have hc : c ∈ p ++ (S ++ TL.joinL S (q :: r)) := hc
      rcases List.mem_append.mp hc with hc | hc
      · exact .inr ⟨p, List.mem_cons_self .., hc⟩
      rcases List.mem_append.mp hc with hc | hc
      · exact .inl hc
      · rcases h2 c hc with z | ⟨p2, hp2, z⟩
        · exact .inl z
        · exact .inr ⟨p2, List.mem_cons_of_mem _ hp2, z⟩
theorem join_len (y : Str) (ps : List Str) : (Txt.join y ps).length ≤ (ps.map (·.length)).sum + ps.length * y.length := by
  rw [TL.join_eq, TL.len_tl, TL.tl_join]
  have := (joinL_all (TL.tl y) (ps.map TL.tl)).1
  rw [List.map_map, List.length_map, ← TL.len_tl] at this
  have e2 : (ps.map (List.length ∘ TL.tl)) = ps.map (·.length) := List.map_congr_left fun p _ => (TL.len_tl p).symm
  rw [e2] at this
  exact this
theorem join_asc {y : Str} {ps : List Str} (hy : Asc y) (h : ∀ p ∈ ps, Asc p) : Asc (Txt.join y ps) := fun c hc => by
  rw [TL.join_eq, TL.tl_join] at hc
  rcases (joinL_all (TL.tl y) (ps.map TL.tl)).2 c hc with z | ⟨p, hp, z⟩
  · exact hy c z
  · obtain ⟨q, hq, rfl⟩ := List.mem_map.mp hp
    exact h q hq c z
theorem split_all {n : Nat} {x y : Str} (h : TxS n x) (hy : TL.tl y ≠ []) (hk : y.cps.all (· < 256) = true) :
    1 ≤ (Txt.split x y).length ∧ ((Txt.split x y).map (·.length)).sum + ((Txt.split x y).length - 1) * y.length ≤ n ∧ ∀ p ∈ Txt.split x y, Asc p := by
  obtain ⟨h1, h2, h3⟩ := spl_all hy _ (TL.tl x) [] (Nat.le_refl _)
  rw [← TL.split_spl x y hy (TL.kind_ok hk)] at h1 h2 h3
  rw [List.length_map] at h1 h2
  rw [List.map_map, List.length_nil, ← TL.len_tl, ← TL.len_tl] at h2
  have e2 : ((Txt.split x y).map (List.length ∘ TL.tl)) = (Txt.split x y).map (·.length) := List.map_congr_left fun p _ => (TL.len_tl p).symm
  rw [e2] at h2
  refine ⟨h1, by have := h.len; omega, fun p hp c hc => ?_⟩
  rcases h3 (TL.tl p) (List.mem_map_of_mem hp) c hc with z | z
  · exact absurd z List.not_mem_nil
  · exact h.ok c z
/-! ### rows of parts -/
/-- parts with so many signs, a separator of two for each -/
structure PS (n : Nat) (ps : List Str) : Prop where
  sum : (ps.map (·.length)).sum + 2 * ps.length ≤ n
  ok : ∀ p ∈ ps, Asc p
theorem sum_mem {ps : List Str} {p : Str} (h : p ∈ ps) : p.length ≤ (ps.map (·.length)).sum := by
  induction ps with
  | nil => exact absurd h List.not_mem_nil
  | cons a l ih =>
    rw [List.map_cons, List.sum_cons]
    rcases List.mem_cons.mp h with rfl | h
    · omega
    · have := ih h; omega
theorem PS.one {n : Nat} {ps : List Str} {p : Str} (h : PS n ps) (hp : p ∈ ps) : TxS n p := ⟨by have := sum_mem hp; have := h.sum; omega, h.ok p hp⟩
theorem PS.mono {n m : Nat} {ps : List Str} (h : PS n ps) (hn : n ≤ m) : PS m ps := ⟨Nat.le_trans h.sum hn, h.ok⟩
theorem PS.app {n m : Nat} {ps qs : List Str} (h : PS n ps) (g : PS m qs) : PS (n + m) (ps ++ qs) := ⟨by
  rw [List.map_append, List.sum_append, List.length_append]
  have := h.sum; have := g.sum; omega, fun p hp => (List.mem_append.mp hp).elim (h.ok p) (g.ok p)⟩
theorem PS.single {n : Nat} {p : Str} (h : TxS n p) : PS (n + 2) [p] := ⟨by
  have := h.len
  simp only [List.map_cons, List.map_nil, List.sum_cons, List.sum_nil, List.length_singleton]
  omega, fun q hq => by rw [List.mem_singleton.mp hq]; exact h.ok⟩
theorem PS.take {n : Nat} {ps : List Str} (h : PS n ps) (k : Nat) : PS n (ps.take k) := ⟨by
  have e := h.sum
  have : ((ps.take k).map (·.length)).sum + ((ps.drop k).map (·.length)).sum = (ps.map (·.length)).sum := by rw [← List.sum_append, ← List.map_append, List.take_append_drop]
  have h2 : (ps.take k).length ≤ ps.length := by rw [List.length_take]; omega
  omega, fun p hp => h.ok p (List.mem_of_mem_take hp)⟩
theorem PS.drop {n : Nat} {ps : List Str} (h : PS n ps) (k : Nat) : PS n (ps.drop k) := ⟨by
  have e := h.sum
  have : ((ps.take k).map (·.length)).sum + ((ps.drop k).map (·.length)).sum = (ps.map (·.length)).sum := by rw [← List.sum_append, ← List.map_append, List.take_append_drop]
  have h2 : (ps.drop k).length ≤ ps.length := by rw [List.length_drop]; omega
  omega, fun p hp => h.ok p (List.mem_of_mem_drop hp)⟩
theorem PS.ins {n m : Nat} {ps : List Str} {p : Str} (h : PS n ps) (g : TxS m p) (k : Nat) : PS (n + (m + 2)) (ps.take k ++ [p] ++ ps.drop k) := ⟨by
  have e := h.sum
  have e2 := g.len
  have : ((ps.take k).map (·.length)).sum + ((ps.drop k).map (·.length)).sum = (ps.map (·.length)).sum := by rw [← List.sum_append, ← List.map_append, List.take_append_drop]
  have h2 : (ps.take k).length + (ps.drop k).length = ps.length := by rw [← List.length_append, List.take_append_drop]
  simp only [List.map_append, List.sum_append, List.length_append, List.map_cons, List.map_nil, List.sum_cons, List.sum_nil, List.length_singleton]
  omega, fun q hq => by
  rcases List.mem_append.mp hq with hq | hq
  · rcases List.mem_append.mp hq with hq | hq
    · exact h.ok q (List.mem_of_mem_take hq)
    · rw [List.mem_singleton.mp hq]; exact g.ok
  · exact h.ok q (List.mem_of_mem_drop hq)⟩
theorem PS.erase {n : Nat} {ps : List Str} (h : PS n ps) (k : Nat) : PS n (ps.eraseIdx k) := ⟨by
  have e := h.sum
  rw [List.eraseIdx_eq_take_drop_succ]
  have e1 : ((ps.take k).map (·.length)).sum + ((ps.drop k).map (·.length)).sum = (ps.map (·.length)).sum := by rw [← List.sum_append, ← List.map_append, List.take_append_drop]
  have h1 : (ps.take k).length + (ps.drop k).length = ps.length := by rw [← List.length_append, List.take_append_drop]
  have e2 : (((ps.drop k).take 1).map (·.length)).sum + (((ps.drop k).drop 1).map (·.length)).sum = ((ps.drop k).map (·.length)).sum := by rw [← List.sum_append, ← List.map_append, List.take_append_drop]
  have h2 : ((ps.drop k).take 1).length + ((ps.drop k).drop 1).length = (ps.drop k).length := by rw [← List.length_append, List.take_append_drop]
  rw [List.drop_drop] at e2 h2
  rw [List.map_append, List.sum_append, List.length_append]
  omega, fun q hq => h.ok q (List.mem_of_mem_eraseIdx hq)⟩
theorem PS.rep {n : Nat} {ps : List Str} (h : PS n ps) : ∀ k : Nat, PS (k * n) (List.replicate k ps).flatten
  | 0 => ⟨by simp, fun p hp => absurd hp (by simp)⟩
  | k + 1 => by
    rw [List.replicate_succ, List.flatten_cons, Nat.add_mul, Nat.one_mul, Nat.add_comm]
    exact h.app (PS.rep h k)
theorem PS.split {n : Nat} {x : Str} (h : TxS n x) : PS (n + 2) (Txt.split x ", ") := by
  obtain ⟨h1, h2, h3⟩ := split_all h (y := ", ") (by decide +kernel) (by decide +kernel)
  have h4 : (", " : Str).length = 2 := by decide +kernel
  rw [h4] at h2
  exact ⟨by omega, h3⟩
theorem PS.join {n : Nat} {ps : List Str} (h : PS n ps) : TxS n (Txt.join ", " ps) := ⟨by
  have e := join_len ", " ps
  have h4 : (", " : Str).length = 2 := by decide +kernel
  rw [h4] at e
  have := h.sum
  omega, join_asc (by
    intro c hc
    have : ∀ c ∈ TL.tl ", ", c < 128 := by decide +kernel
    exact this c hc) h.ok⟩
/-! ### a part as a step -/
def pD (p : Str) : PyData := .tuple ((Txt.split p " ").map PyData.str)
end Y

set_option pp.deepTerms false
set_option pp.deepTerms.threshold 8
/-! # read_script on any text -/
namespace Y
open PySem L2
local macro_rules | `(tactic| walk_at "a") => `(tactic| repeat (first
  | (with_reducible apply ev_int) | (with_reducible apply ev_str) | (with_reducible apply ev_bl) | (with_reducible apply ev_non) | (with_reducible apply ev_ty)
  | ((with_reducible apply ev_var); · rfl)
  | (with_reducible apply ev_op) | (with_reducible apply ev_un) | (with_reducible apply evs_nil) | (with_reducible apply evs_cons) | (with_reducible apply ev_cb) | (with_reducible apply ev_if)
  | (with_reducible apply et_test) | (with_reducible apply et_B) | (with_reducible apply et_and) | (with_reducible apply et_or) | (with_reducible apply et_not)
  | (with_reducible apply ex_seq) | (with_reducible apply ex_name) | (with_reducible apply ex_to) | (with_reducible apply ex_ret) | (with_reducible apply ex_if) | (with_reducible apply ex_drop) | (with_reducible apply ex_retN) | (with_reducible apply ex_next)
  | (with_reducible apply ex_par) | (with_reducible apply ex_par3) | (with_reducible apply eg_sub) | (with_reducible apply eg_name)
  | (with_reducible apply o_int) | (with_reducible apply o_bl) | (with_reducible apply o1_neg)
  | (with_reducible apply ev_andV) | (with_reducible apply ev_orV) | (with_reducible apply ev_notV)
  | (with_reducible apply ev_sl) | (with_reducible apply eo_part) | (with_reducible apply eo_no) | (with_reducible apply ev_bm) | (with_reducible apply ev_bm0)
  | (with_reducible apply ite_f) | (with_reducible apply ite_t) | (with_reducible apply ev_tupD) | (with_reducible apply ev_chain)
  | ((with_reducible apply o_ixL); (· rfl); (· rfl)) | ((with_reducible apply o_ixT); (· rfl); (· rfl))
  | ((with_reducible apply o_eq); (· rfl); (· rfl); (· rfl)) | ((with_reducible apply o_ne); (· rfl); (· rfl); (· rfl))
  | (with_reducible apply o_isN) | (with_reducible apply o_notN)
  | (with_reducible apply on_int) | (with_reducible apply on_intB) | (with_reducible apply on_max) | (with_reducible apply on_min) | (with_reducible apply on_abs)
  | ((with_reducible apply on_lenL); (· rfl)) | ((with_reducible apply on_lenT); (· rfl)) | ((with_reducible apply on_isD); (· rfl); (· decide))
  | ((with_reducible apply isSub); (· rfl); (· rfl)) | (with_reducible apply isB) | (with_reducible apply isI) | (with_reducible apply is2) | (with_reducible apply is3) | (with_reducible apply isI1) | (with_reducible apply isI2) | (with_reducible apply isT) | (with_reducible apply isL) | (with_reducible apply isScr) | ((with_reducible apply isDs); (· rfl); (· rfl))
  | ((with_reducible apply o_inT); (· rfl); (· rfl); (· decide +kernel); (· decide +kernel)) | ((with_reducible apply o_eqD); (· rfl); (· rfl); (· decide +kernel); (· decide +kernel))
  | ((with_reducible apply iteT'); · first | decide +kernel | rfl) | ((with_reducible apply iteF'); · first | decide +kernel | rfl)))
/-! ### pure -/
def firstF : Nat → List Bool → Option Nat
  | _, [] => none
  | i, b :: bs => if b = false then some i else firstF (i + 1) bs
theorem take_snoc {α : Type} {l : List α} {i : Nat} {x : α} (h : l[i]? = some x) : l.take (i + 1) = l.take i ++ [x] := by
  rw [List.take_add_one, h]; rfl
theorem firstF_at : ∀ {bs : List Bool} {j i : Nat}, (∀ t, t < i → bs[t]? = some true) → bs[i]? = some false → firstF j bs = some (j + i)
  | [], _, _, _, h => by simp at h
  | a :: bs, j, 0, _, h => by
    simp at h; subst h; rfl
  | a :: bs, j, i + 1, h0, h => by
    have h1 := h0 0 (Nat.succ_pos i)
    simp at h1; subst h1
    unfold firstF
    rw [if_neg (by decide), firstF_at (bs := bs) (j := j + 1) (i := i) (fun t ht => by simpa using h0 (t + 1) (by omega)) (by simpa using h)]
    congr 1; omega
theorem firstF_none : ∀ {bs : List Bool} {j : Nat}, (∀ t, t < bs.length → bs[t]? = some true) → firstF j bs = none
  | [], _, _ => rfl
  | a :: bs, j, h => by
    have h1 := h 0 (by simp)
    simp at h1; subst h1
    unfold firstF
    rw [if_neg (by decide), firstF_none (bs := bs) fun t ht => by simpa using h (t + 1) (by simpa using ht)]
theorem eqv_strs : ∀ {xs ys : List Str}, PyData.eqvAll (xs.map PyData.str) (ys.map PyData.str) = true → xs = ys
  | [], [], _ => rfl
  | [], _ :: _, h => by simp [PyData.eqvAll] at h
  | _ :: _, [], h => by simp [PyData.eqvAll] at h
  | x :: xs, y :: ys, h => by
    have h : (PyData.eqv (.str x) (.str y) && PyData.eqvAll (xs.map PyData.str) (ys.map PyData.str)) = true := h
    rw [Bool.and_eq_true] at h
    have h1 : (x == y) = true := h.1
    rw [eq_of_beq h1, eqv_strs h.2]
theorem pD_step {p : Str} (h : isStepD (pD p) = true) : pD p ∈ STEPSD := by
  have h : (((Txt.split p " ").map PyData.str).all (fun d => isTy (tyD d) "str") && STEPSD.any fun z => PyData.eqv z (pD p)) = true := h
  rw [Bool.and_eq_true, List.any_eq_true] at h
  obtain ⟨_, z, hz, he⟩ := h
  obtain ⟨e1, _⟩ := step_words z hz
  have he2 := he
  rw [e1] at he2
  have he2 : PyData.eqvAll ((wordsD z).map PyData.str) ((Txt.split p " ").map PyData.str) = true := he2
  have := eqv_strs he2
  show PyData.tuple ((Txt.split p " ").map PyData.str) ∈ STEPSD
  rw [← this, ← e1]; exact hz
theorem steps_menu {d : PyData} (h : d ∈ STEPSD) : d ∈ MENUD := by
  simp only [STEPSD, List.mem_cons, List.not_mem_nil, or_false] at h
  rcases h with rfl | rfl | rfl | rfl | rfl | rfl | rfl | rfl | rfl | rfl | rfl | rfl <;> simp [MENUD]
theorem pD_all (p : Str) : ((Txt.split p " ").map PyData.str).all (fun d => isTy (tyD d) "str") = true := by
  rw [List.all_map, List.all_eq_true]
  intro x _
  rfl
theorem pD_menu (p : Str) : (MENUD.any fun z => PyData.eqv z (pD p)) = isStepD (pD p) := by
  have e : isStepD (pD p) = STEPSD.any fun z => PyData.eqv z (pD p) := by
    show (((Txt.split p " ").map PyData.str).all (fun d => isTy (tyD d) "str") && _) = _
    rw [pD_all, Bool.true_and]; rfl
  rw [e, Bool.eq_iff_iff, List.any_eq_true, List.any_eq_true]
  exact ⟨fun ⟨z, h1, h2⟩ => ⟨z, menu_steps h1, h2⟩, fun ⟨z, h1, h2⟩ => ⟨z, steps_menu h1, h2⟩⟩
theorem pD_flat {n : Nat} {p : Str} (h : TxS n p) : Flat 1 (pD p) := flat_tup fun d hd => by
  obtain ⟨q, hq, rfl⟩ := List.mem_map.mp hd
  obtain ⟨_, _, h3⟩ := split_all h (y := " ") (by decide +kernel) (by decide +kernel)
  exact ⟨(h3 q hq).strOk, Nat.le_refl _⟩
theorem words_len {n : Nat} {p : Str} (h : TxS n p) : (Txt.split p " ").length ≤ n + 1 := by
  obtain ⟨h1, h2, _⟩ := split_all h (y := " ") (by decide +kernel) (by decide +kernel)
  have h4 : (" " : Str).length = 1 := by decide +kernel
  rw [h4] at h2
  omega
inductive RR
  | made (ds : List PyData)
  | part (i : Nat)
  | step
def readR (s : Str) : RR := if s = "nothing" then .made [] else match firstF 0 ((Txt.split s ", ").map fun p => isStepD (pD p)) with
  | some i => .part i
  | none => if (Txt.split s ", ").length ≤ 12 then .made ((Txt.split s ", ").map pD) else .step
inductive ReadOf : AV → RR → Prop
  | no {y : AV} {t : String} : tyA y [] = some t → t ≠ "str" → AV.lt 0 y = true → ReadOf y (.part 0)
  | ok {s : Str} : TxS 6000 s → ReadOf (.d (.str s)) (readR s)
theorem readR_none {s : Str} : readR "nothing" = .made [] := rfl
theorem readR_part {s : Str} {i : Nat} (h : s ≠ "nothing") (h2 : firstF 0 ((Txt.split s ", ").map fun p => isStepD (pD p)) = some i) : readR s = .part i := by
  unfold readR; rw [if_neg h, h2]
theorem readR_rest {s : Str} (h : s ≠ "nothing") (h2 : firstF 0 ((Txt.split s ", ").map fun p => isStepD (pD p)) = none) : readR s = if (Txt.split s ", ").length ≤ 12 then .made ((Txt.split s ", ").map pD) else .step := by
  unfold readR; rw [if_neg h, h2]
def ApReadX (cT cN : Addr) : ASpX := fun xs cs k kx => ∃ y r, xs = [y] ∧ cs = [] ∧ ReadOf y r ∧ (∀ ds, r = .made ds → Row ds → k (.scr ds) []) ∧ (∀ i : Nat, r = .part i → kx cT (.fld "part" (.d (.int i))) []) ∧ (r = .step → kx cN (.fld "index" (.d (.int 12))) [])
section
variable {K : PySem.W.Frag} {C cN : Addr} {F F' H H' : Hp} {as as' : Own} {cs cs' cs1 : List Cell} {E : AEnv} {k : AV → List Cell → Prop} {x y : AV} {te ta tb : TE} {tas : TA} {X : XK} {n m : Nat} {W : WX} {ex : EX}
/-- a body: what flies keeps none of the body's own cells -/
theorem body_goXR {N : List Str} {xs : List AV} {vs : List V} {t : TS} {Q : VK} {X : XK} {kx : KX} {n : Nat} (E : AEnv) (hE : startE N xs = E) (hn : cs.length = n) (w : Wd K C F as cs H) (r : ARs K C F as xs vs)
    (hx : Ex K C n E cs t { nx := fun _ cs' => Rt n k (.d .none) cs', rt := Rt n k, W := fun cls d _ H => X cls d H, ex := fun c p _ cs' => ∃ f d, p = .fld f (.d d) ∧ Rt n (fun _ cz => kx c p cz) (.d .none) cs' })
    (q : ∀ r cs' v F' as' H', k r cs' → Stp as.length F as H F' as' H' → Wd K C F' as' cs' H' → AR K C F' as' r v → Q v H')
    (qx : ∀ c p cs' d F' as' H', kx c p cs' → Stp as.length F as H F' as' H' → Wd K C F' as' cs' H' → XR K C F' as' p d → X (.ref c) d H') : t { nx := fun _ H' => Q .non H', rt := Q } (L2.start N vs) H := by
  subst hn; subst hE
  have key : ∀ r cs' v F' as' H', Rt cs.length k r cs' → Stp as.length F as H F' as' H' → Wd K C F' as' cs' H' → AR K C F' as' r v → Q v H' := fun r cs' v F' as' H' h s w' r' => h.run w s w' r' fun r1 cs1 as1 hk s1 w1 a1 => q r1 cs1 v F' as1 H' hk s1 w1 a1
  refine hx F as H _ _ (Nat.le_refl _) w (EnvR.start r) ⟨fun E' cs' F' as' H' σ h s w' _ => key _ cs' _ F' as' H' h (s.weak (by rw [w.len]; exact Nat.le_refl _)) w' (.d .non), fun x cs' F' as' H' v h s w' r' => key x cs' v F' as' H' h (s.weak (by rw [w.len]; exact Nat.le_refl _)) w' r', fun _ _ _ _ _ _ h => h.elim, fun _ _ _ _ _ _ h => h.elim, fun c p E' cs' F' as' H' σ d ⟨f, dd, hp, h⟩ s w' _ xr => ?_⟩
  subst hp
  obtain ⟨a, v, h1, h2, h3⟩ := xr
  refine h.run (v := .non) w (s.weak (by rw [w.len]; exact Nat.le_refl _)) w' (.d .non) fun r1 cs1 as1 hk s1 w1 a1 => qx c _ cs1 d F' as1 H' hk s1 w1 ⟨a, v, h1, h2, ?_⟩
  cases h3 with | d h3 => exact .d h3
/-- Script(y), what it raises goes on out of the def -/
theorem evx_makeScrP (h : Evs K C E cs tas fun xs cs1 => ∃ y r, xs = [y] ∧ InitOf cs1 y r ∧ (∀ ds, r = .inl ds → Row ds → k (.scr ds) cs1) ∧ ∀ i : Nat, r = .inr i → ex cN (.fld "index" (.d (.int i))) E cs1) : EvX K C (fun cls d _ H => X cls d H) ex E cs (tMake C (spInitX K C cN) [] X tas) k := by
  have e : tMake C (spInitX K C cN) [] X tas = tMakeS C (spInitX K C cN) (WE fun cls d _ H => X cls d H) tas := by
    funext σ H Q
    unfold tMake tMakeS
    congr 1
    funext vs H1
    rw [List.append_nil]
  rw [e]
  exact evx_makeScr h
theorem on_isScr (ic : InsI K C) {ds : List PyData} (h : k (.d (.bool true)) cs) : On K C (rIsi K) [.scr ds, .raw C] cs k := fun F as H vs Q w r q => by
  cases r with | cons r1 r2 =>
  cases r2 with | cons r2 r3 =>
  cases r3
  cases r2
  cases r1 with | scr hs =>
  obtain ⟨dx, v, hx, _⟩ := hs
  exact ⟨_, _, .ref C, .ref C, true, rfl, .own _, ic.ty (w.fro _ _ hx), kit_self, q.now h w (.d (.bl true))⟩
theorem o_addS {a b : Str} (hl : a.length + b.length ≤ 16777216) (h : k (.d (.str (a ++ b))) cs) : O2 K C (fun x y H Q => ∃ i j, x = .str i ∧ y = .str j ∧ i.length + j.length ≤ sizeLine ∧ Q (.str (i ++ j)) H) (.d (.str a)) (.d (.str b)) cs k := fun F as H v u Q w r1 r2 q =>
  ⟨a, b, r1.str, r2.str, Nat.le_trans hl (by decide), q.now h w (.d (.str _))⟩
theorem o_ixS {a : Str} {i : Int} {c : Nat} (hl : a.length ≤ 100000) (hi : atI a.cps.toList i = some c) (h : k (.d (.str ⟨#[c]⟩)) cs) : O2 K C rIxS (.d (.str a)) (.d (.int i)) cs k := fun F as H v u Q w r1 r2 q =>
  ⟨a, i, c, r1.str, r2.int, line_of hl, hi, q.now h w (.d (.str _))⟩
theorem os_txt {z : Str} {lo hi : Option Int} (hz : z.length ≤ 16777216) (h : k (.d (.str (Txt.slice z lo hi))) cs) : Osl K C C8.rSlX (.d (.str z)) lo hi cs k := fun F as H v Q w r q => ⟨z, r.str, Nat.le_trans hz (by decide), q.now h w (.d (.str _))⟩
theorem on_lenS {z : Str} (hz : z.length ≤ 100000) (h : k (.d (.int z.length)) cs) : On K C (fun xs H Q => ∃ z, xs = [.str z] ∧ z.length ≤ sizeLine ∧ Q (.int z.length) H) [.d (.str z)] cs k := fun F as H vs Q w r q => by
  cases r with | cons r1 r2 =>
  cases r2
  exact ⟨z, by rw [r1.str], line_of hz, q.now h w (.d (.int _))⟩
theorem o_repB {i : Nat} {ds : List PyData} {z : Int} (h1 : cs[i]? = some (.l ds)) (hz1 : -(2 ^ 63) ≤ z) (hz2 : z < 2 ^ 63) (hl : ds.length * z.toNat ≤ 16777216) (h : k (.cel cs.length) (cs ++ [.l (List.replicate z.toNat ds).flatten])) : O2 K C rRep (.cel i) (.d (.int z)) cs k := fun F as H v u Q w r1 r2 q => by
  cases r1 with | cel hp =>
  obtain ⟨_, vs, h3, h4⟩ := w.lst hp h1
  exact ⟨_, z, vs, rfl, r2.int, h3, hz1, hz2, Nat.le_trans (by rw [h4.length]; exact hl) (show 16777216 ≤ sizeLine by decide), fun b hb => q.cell w hb trivial (.l upd_same (dpAll_rep _ h4)) h⟩
theorem om_popAt {i j : Nat} {ds : List PyData} {d : PyData} (h1 : cs[i]? = some (.l ds)) (hj : ds[j]? = some d) (hb : ds.length < 100000) (h : k (.d d) (cs.set i (.l (ds.eraseIdx j)))) : Om K C rPopAt (.cel i) [.d (.int (j : Int))] cs k := fun F as H v vs Q w r1 r2 q => by
  cases r1 with | cel hp =>
  cases r2 with | cons r2 r3 =>
  cases r3
  cases r2 with | d r2 =>
  cases r2
  obtain ⟨rfl, xs, h3, h4⟩ := w.lst hp h1
  have hl := h4.length
  have hjl : j < ds.length := (List.getElem?_eq_some_iff.mp hj).1
  obtain ⟨y, hy, ry⟩ := (ARs.data (C := C) (as := as) h4).get (i := j) (x := .d d) (by rw [List.getElem?_map, hj]; rfl)
  have hd : DpAll K F (xs.eraseIdx j) (ds.eraseIdx j) := by
    rw [List.eraseIdx_eq_take_drop_succ, List.eraseIdx_eq_take_drop_succ]
    exact (h4.take j).append (h4.drop (j + 1))
  obtain ⟨w1, s1⟩ := w.put (o := .lst (xs.eraseIdx j)) (c := .l (ds.eraseIdx j)) hp (by simp) trivial (.l upd_same hd)
  exact ⟨_, xs, (j : Int), j, y, rfl, rfl, h3, by omega, by omega, by rw [PySem.StrLaws.seqIndex_nonneg (by omega) (by omega)]; simp, hy, q _ _ _ _ _ _ h s1 w1 ry⟩
end
section
variable {P : Program} {w : World} {K : PySem.W.Frag} {mg : Str → Option Value} {base : Heap}
theorem ok_NoText_init (T : Tx K mg) : FnOk P w K mg base CX0 1 T.NoText_init.a T.NoText_init.fd ["self", "part"] (spOInit T.c_NoText "part") := by
  refine T.NoText_init.F.ok sc_NoText_init (fun vs H Q E h => by obtain ⟨a, v, rfl, _⟩ := h; rfl) (fun cdv A outer s H vs Q E hr h => ?_)
  obtain ⟨a, v, rfl, hx, q⟩ := h
  refine ⟨_, (pss_one (ps_ost (pv 0) (pv 1))), ?_⟩
  exact ⟨_, rfl, _, rfl, a, _, rfl, T.ox_NoText, T.nf_NoText, .inl ⟨hx, fun dx n ne => q dx n ne⟩⟩
theorem stepA_step {d : PyData} {cs : List Cell} (h : d ∈ STEPSD) : stepA (.d d) cs = some true := by
  have h1 := step_is d h
  have h2 : lenOk d = true := by
    simp only [STEPSD, List.mem_cons, List.not_mem_nil, or_false] at h
    rcases h with rfl | rfl | rfl | rfl | rfl | rfl | rfl | rfl | rfl | rfl | rfl | rfl <;> rfl
  show (if (SeqAt.shaped d && lenOk d) = true then some (isStepD d) else none) = some true
  rw [h1.2.1, h2, h1.1]; rfl
theorem init_long {ds : List PyData} {cs : List Cell} (h : ∀ d ∈ ds, d ∈ STEPSD) (h1 : 12 < ds.length) (h2 : ds.length ≤ 100000) : InitOf cs (.d (.tuple ds)) (.inr 12) := by
  refine .bad (ys := ds.map AV.d) (bs := ds.map fun _ => true) rfl rfl ?_ (by rw [List.length_map]; exact h2) ?_
  · rw [List.map_map, List.map_map]
    exact List.map_congr_left fun d hd => stepA_step (cs := cs) (h d hd)
  · have := firstBad_at (bs := ds.map fun _ => true) (j := 0) (i := 12) (b := true) (fun t ht => ⟨by omega, by rw [List.getElem?_map, List.getElem?_eq_getElem (by omega)]; rfl⟩) (by rw [List.getElem?_map, List.getElem?_eq_getElem h1]; rfl) (.inl (by omega))
    rw [Nat.zero_add] at this; exact this
theorem okx_read_script (T : Tx K mg) : FnOk P w K mg base (L2.CX P w) 6 T.read_script.a T.read_script.fd ["text"] (spAX K T.c_Script (ApReadX T.c_NoText T.c_NoStep)) := by
  have G_is_step := ok_is_step (P := P) (w := w) (base := base) T
  have GX_Script_init := okx_Script_init (P := P) (w := w) (base := base) T
  have G_NoText_init := ok_NoText_init (P := P) (w := w) (base := base) T
  refine T.read_script.F.okX sc_read_script (fun vs H Q E h => spAX_len (l := 1) (fun xs cs k kx ⟨_, _, h, _⟩ => by rw [h]; rfl) h) (fun cdv A outer s H vs Q E hr h => ?_)
  obtain ⟨F, as, cs, xs, k, kx, wd, ar, ⟨y, r, rfl, rfl, ht, hk, hkp, hks⟩, q, qx⟩ := h
  refine ⟨_, (pss_cons (ps_if (pt_not (pt_val (pe_callB (call_isDK K) (by rfl) T.b_isinstance (by decide +kernel) (pa_cons (pv 0) (pa_cons (pe_bltn (v := .ty "str") (by rfl) T.b_str (by decide +kernel) rfl) pa_nil)))))
  (pss_one (ps_raiseO rfl T.ox_NoText T.NoText_init.m.at_ T.tt_NoText G_NoText_init (hr.mono (by first | decide | omega)) T.NoText_init.b pass0 (takes_of rfl rfl rfl rfl) rfl T.g_NoText (pa_cons pe_int pa_nil)))
  pss_nil)
  (pss_cons (ps_if (pt_cmpR op_eq (pv 0) (pe_glob (v := .str "nothing") rfl T.g_NOTHING ⟨_, rfl⟩) (nomark _))
  (pss_one (ps_ret (pe_make T.mk_Script GX_Script_init (hr.mono (by first | decide | omega)) rfl T.g_Script T.Script_init.b .nil (passes_call (takes_of rfl rfl rfl rfl) (fun _ _ _ _ h => h)) (pa_cons (pe_tup pa_nil) pa_nil))))
  pss_nil)
  (pss_cons (ps_set (i := 1) sc_read_script.nd rfl (Or.inl rfl) (pe_lst pa_nil))
  (pss_cons (ps_for (passes_of rfl) rfl (pi_enum (by rfl) T.b_enumerate (pa_cons (pe_split (pv 0) (pe_glob (v := .str ", ") rfl T.g_BETWEEN ⟨_, rfl⟩)) pa_nil)) (pg_tupK K rfl (pgs_cons (pg_name (i := 2) sc_read_script.nd rfl (Or.inl rfl)) (pgs_cons (pg_name (i := 3) sc_read_script.nd rfl (Or.inl rfl)) pgs_nil)))
  (pss_cons (ps_set (i := 4) sc_read_script.nd rfl (Or.inl rfl) (pe_callTy (call_tupK K) (by rfl) T.b_tuple (by decide +kernel) (pa_cons (pe_split (pv 3) pe_str) pa_nil)))
  (pss_cons (ps_if (pt_not (pt_val (pe_call G_is_step (hr.mono (by first | decide | omega)) rfl T.is_step.g T.is_step.F.kp T.is_step.b .nil pass0 (pa_cons (pv 4) pa_nil))))
  (pss_one (ps_raiseO rfl T.ox_NoText T.NoText_init.m.at_ T.tt_NoText G_NoText_init (hr.mono (by first | decide | omega)) T.NoText_init.b pass0 (takes_of rfl rfl rfl rfl) rfl T.g_NoText (pa_cons (pv 2) pa_nil)))
  pss_nil)
  (pss_one (ps_expr (pe_bmK2 K PySem.F.plainAttrs_list PySem.F.slot_list_append PySem.F.type_list_append mt_append (pv 1) (pa_cons (pv 4) pa_nil)))))))
  (pss_one (ps_ret (pe_make T.mk_Script GX_Script_init (hr.mono (by first | decide | omega)) rfl T.g_Script T.Script_init.b .nil (passes_call (takes_of rfl rfl rfl rfl) (fun _ _ _ _ h => h)) (pa_cons (pe_callTy (call_tupK K) (by rfl) T.b_tuple (by decide +kernel) (pa_cons (pv 1) pa_nil)) pa_nil)))))))), ?_⟩
  refine body_goXR [some y, none, none, none, none] (n := 0) rfl rfl wd ar ?_ q qx
  cases ht with
  | @no y t h1 h2 h3 =>
    walk_at "a"
    refine on_isD h1 (by decide) ?_
    have ht : isTy t "str" = false := by unfold isTy; simp [h2]
    rw [ht]
    walk_at "a"
    refine ex_raiseO (D := { nx := _, rt := _, W := fun cls d _ H => E cls d H, ex := _ }) ?_
    walk_at "a"
    exact ⟨_, rfl, _, _, rfl, Rt.cut 0 (hkp 0 rfl) (Nat.le_refl 0) rfl rfl⟩
  | @ok s hs =>
    have hl : s.length ≤ 100000 := Nat.le_trans hs.len (by decide)
    walk_at "a"
    by_cases c0 : s = "nothing"
    · rw [show decide (V.str s = V.str "nothing") = true from decide_eq_true (by rw [c0])]
      refine ite_t ?_
      refine ex_retX (D := { nx := _, rt := _, W := fun cls d _ H => E cls d H, ex := _, bk := _, ct := _ }) ?_
      refine evx_makeScrP ?_
      walk_at "a"
      refine ⟨.d (.tuple []), .inl [], rfl, .ok ⟨fun d hd => absurd hd List.not_mem_nil, by decide⟩, fun ds e hr2 => ?_, fun i e => (by cases e)⟩
      cases e
      exact Rt.cut 0 (hk [] (by rw [c0]; rfl) hr2) (Nat.le_refl 0) rfl rfl
    rw [show decide (V.str s = V.str "nothing") = false from decide_eq_false fun z => c0 (V.str.inj z)]
    walk_at "a"
    refine ev_lstD ?_
    walk_at "a"
    have hps := PS.split hs
    have hlen : (Txt.split s ", ").length ≤ 3001 := by have := hps.sum; omega
    refine ex_for 2 (by decide) (ei_enumC 1 (by decide) ?_)
    walk_at "a"
    refine ev_split ?_
    walk_at "a"
    refine ⟨s, rfl, ?_⟩
    walk_at "a"
    refine ⟨_, rfl, by decide +kernel, hl, ?_⟩
    walk_at "a"
    refine ⟨rfl, (Txt.split s ", ").map PyData.str, rfl, Nat.le_refl 2, fun i E' cs' => E' = [some (.d (.str s)), some (.cel 0), none, none, none] ∧ cs' = [.l (((Txt.split s ", ").map pD).take i), .l ((Txt.split s ", ").map PyData.str)] ∧ ∀ t, t < i → ((Txt.split s ", ").map fun p => isStepD (pD p))[t]? = some true, ⟨rfl, rfl, fun t ht => absurd ht (Nat.not_lt_zero t)⟩, fun i E' cs' h => by rw [h.2.1]; rfl, ?_, ?_⟩
    · rintro i z E' cs' hz ⟨rfl, rfl, hb⟩
      rw [List.getElem?_mapIdx, List.getElem?_map, Option.map_map] at hz
      obtain ⟨p, hp, rfl⟩ := Option.map_eq_some_iff.mp hz
      have hpm := List.mem_of_getElem? hp
      have hpt := hps.one hpm
      have hi := (List.getElem?_eq_some_iff.mp hp).1
      refine eg_tupD rfl (egs_cons (egs_cons (egs_nil ?_)))
      walk_at "a"
      refine ev_split ?_
      walk_at "a"
      refine ⟨p, rfl, ?_⟩
      walk_at "a"
      refine ⟨_, rfl, by decide +kernel, Nat.le_trans hpt.len (by decide), ?_⟩
      walk_at "a"
      refine on_tupL (by rfl) ?_
      walk_at "a"
      refine ev_isStepA ?_
      walk_at "a"
      have hst : stepA (.d (pD p)) [.l (((Txt.split s ", ").map pD).take i), .l ((Txt.split s ", ").map PyData.str), .l ((Txt.split p " ").map PyData.str)] = some (isStepD (pD p)) := by
        show (if (SeqAt.shaped (pD p) && lenOk (pD p)) = true then some (isStepD (pD p)) else none) = _
        rw [(pD_flat hpt).shaped (by decide), show lenOk (pD p) = true from decide_eq_true (by rw [List.length_map]; have := words_len hpt; omega)]
        rfl
      refine ⟨_, isStepD (pD p), rfl, hst, ?_⟩
      have hbi : ((Txt.split s ", ").map fun p => isStepD (pD p))[i]? = some (isStepD (pD p)) := by rw [List.getElem?_map, hp]; rfl
      cases hc : isStepD (pD p) with
      | false =>
        rw [hc] at hbi
        walk_at "a"
        refine ex_raiseO (D := { nx := _, rt := _, W := fun cls d _ H => E cls d H, ex := _, bk := _, ct := _ }) ?_
        walk_at "a"
        have := firstF_at (j := 0) hb hbi
        rw [Nat.zero_add] at this
        exact ⟨_, rfl, _, _, rfl, Rt.cut 0 (hkp i (readR_part c0 this)) (Nat.le_refl 0) rfl rfl⟩
      | true =>
        rw [hc] at hbi
        walk_at "a"
        refine ⟨ty_l (by rfl), ?_⟩
        walk_at "a"
        refine om_append (i := 0) (ds := ((Txt.split s ", ").map pD).take i) (by rfl) (by rw [List.length_take, List.length_map]; omega) ?_
        refine Cm.mask [true, true, false, false, false] 2 rfl (Nat.le_refl 2) rfl rfl ⟨rfl, ?_, fun t ht => ?_⟩
        · have : ((Txt.split s ", ").map pD).take (i + 1) = ((Txt.split s ", ").map pD).take i ++ [pD p] := take_snoc (by rw [List.getElem?_map, hp]; rfl)
          rw [this]; rfl
        · rcases Nat.lt_succ_iff_lt_or_eq.mp ht with ht | rfl
          · exact hb t ht
          · exact hbi
    · rintro E' cs' ⟨rfl, rfl, hb⟩
      rw [List.length_mapIdx, List.length_map] at hb ⊢
      have hnone := firstF_none (j := 0) (bs := (Txt.split s ", ").map fun p => isStepD (pD p)) (fun t ht => hb t (by rw [List.length_map] at ht; exact ht))
      have hall : ∀ d ∈ (Txt.split s ", ").map pD, d ∈ STEPSD := fun d hd => by
        obtain ⟨p, hp, rfl⟩ := List.mem_map.mp hd
        obtain ⟨t, ht⟩ := List.mem_iff_getElem?.mp hp
        have h1 := hb t (List.getElem?_eq_some_iff.mp ht).1
        rw [List.getElem?_map, ht] at h1
        exact pD_step (Option.some.inj h1)
      have hrr := readR_rest c0 hnone
      rw [show ((Txt.split s ", ").map pD).take (Txt.split s ", ").length = (Txt.split s ", ").map pD from List.take_of_length_le (by rw [List.length_map]; exact Nat.le_refl _)]
      show Ex _ _ _ _ _ _ _
      refine ex_retX (D := { nx := _, rt := _, W := fun cls d _ H => E cls d H, ex := _, bk := _, ct := _ }) ?_
      refine evx_makeScrP ?_
      walk_at "a"
      refine on_tupL (by rfl) ?_
      walk_at "a"
      by_cases c12 : (Txt.split s ", ").length ≤ 12
      · rw [if_pos c12] at hrr
        refine ⟨_, .inl _, rfl, .ok ⟨hall, by rw [List.length_map]; exact c12⟩, fun ds e hr2 => ?_, fun i e => (by cases e)⟩
        cases e
        exact Rt.cut 0 (hk _ hrr hr2) (Nat.le_refl 0) rfl rfl
      · rw [if_neg c12] at hrr
        refine ⟨_, .inr 12, rfl, init_long hall (by rw [List.length_map]; omega) (by rw [List.length_map]; omega), fun ds e => (by cases e), fun i e => ?_⟩
        cases e
        exact ⟨_, _, rfl, Rt.cut 0 (hks hrr) (Nat.le_refl 0) rfl rfl⟩
end
end Y

set_option pp.deepTerms false
set_option pp.deepTerms.threshold 8
/-! # texts that are spoilt -/
namespace Y
open PySem L2
local macro_rules | `(tactic| walk_at "a") => `(tactic| repeat (first
  | (with_reducible apply ev_int) | (with_reducible apply ev_str) | (with_reducible apply ev_bl) | (with_reducible apply ev_non) | (with_reducible apply ev_ty)
  | ((with_reducible apply ev_var); · rfl)
  | (with_reducible apply ev_op) | (with_reducible apply ev_un) | (with_reducible apply evs_nil) | (with_reducible apply evs_cons) | (with_reducible apply ev_cb) | (with_reducible apply ev_if)
  | (with_reducible apply et_test) | (with_reducible apply et_B) | (with_reducible apply et_and) | (with_reducible apply et_or) | (with_reducible apply et_not)
  | (with_reducible apply ex_seq) | (with_reducible apply ex_name) | (with_reducible apply ex_to) | (with_reducible apply ex_ret) | (with_reducible apply ex_if) | (with_reducible apply ex_drop) | (with_reducible apply ex_retN) | (with_reducible apply ex_next)
  | (with_reducible apply ex_par) | (with_reducible apply ex_par3) | (with_reducible apply eg_sub) | (with_reducible apply eg_name)
  | (with_reducible apply o_int) | (with_reducible apply o_bl) | (with_reducible apply o1_neg)
  | (with_reducible apply ev_andV) | (with_reducible apply ev_orV) | (with_reducible apply ev_notV)
  | (with_reducible apply ev_sl) | (with_reducible apply eo_part) | (with_reducible apply eo_no) | (with_reducible apply ev_bm) | (with_reducible apply ev_bm0)
  | (with_reducible apply ite_f) | (with_reducible apply ite_t) | (with_reducible apply ev_tupD) | (with_reducible apply ev_chain)
  | ((with_reducible apply o_ixL); (· rfl); (· rfl)) | ((with_reducible apply o_ixT); (· rfl); (· rfl))
  | ((with_reducible apply o_eq); (· rfl); (· rfl); (· rfl)) | ((with_reducible apply o_ne); (· rfl); (· rfl); (· rfl))
  | (with_reducible apply o_isN) | (with_reducible apply o_notN)
  | (with_reducible apply on_int) | (with_reducible apply on_intB) | (with_reducible apply on_max) | (with_reducible apply on_min) | (with_reducible apply on_abs)
  | ((with_reducible apply on_lenL); (· rfl)) | ((with_reducible apply on_lenT); (· rfl)) | ((with_reducible apply on_isD); (· rfl); (· decide))
  | ((with_reducible apply isSub); (· rfl); (· rfl)) | (with_reducible apply isB) | (with_reducible apply isI) | (with_reducible apply is2) | (with_reducible apply is3) | (with_reducible apply isI1) | (with_reducible apply isI2) | (with_reducible apply isT) | (with_reducible apply isL) | (with_reducible apply isScr) | ((with_reducible apply isDs); (· rfl); (· rfl))
  | ((with_reducible apply o_inT); (· rfl); (· rfl); (· decide +kernel); (· decide +kernel)) | ((with_reducible apply o_eqD); (· rfl); (· rfl); (· decide +kernel); (· decide +kernel))
  | ((with_reducible apply iteT'); · first | decide +kernel | rfl) | ((with_reducible apply iteF'); · first | decide +kernel | rfl)))
def ApText : ASp := fun xs cs k => ∃ ds, xs = [.d (.tuple ds)] ∧ cs = [] ∧ (∀ d ∈ ds, d ∈ STEPSD) ∧ ds.length ≤ 100 ∧ k (.d (.str (rowText ds))) []
theorem stepText_tx {d : PyData} (h : d ∈ STEPSD) : TxS 30 (stepText d) := ⟨(step_words d h).2.2, by
  have : STEPSD.all (fun d => (TL.tl (stepText d)).all fun c => decide (c < 128)) = true := by decide +kernel
  intro c hc
  exact of_decide_eq_true (List.all_eq_true.mp (List.all_eq_true.mp this d h) c hc)⟩
theorem texts_ps : ∀ {ds : List PyData}, (∀ d ∈ ds, d ∈ STEPSD) → PS (ds.length * 32) (ds.map stepText)
  | [], _ => ⟨by simp, fun p hp => absurd hp List.not_mem_nil⟩
  | d :: ds, h => by
    have := (PS.single (stepText_tx (h d (List.mem_cons_self ..)))).app (texts_ps (ds := ds) fun x hx => h x (List.mem_cons_of_mem _ hx))
    rw [List.length_cons, Nat.add_mul, Nat.one_mul, Nat.add_comm]
    exact this
theorem rowText_tx {ds : List PyData} (h : ∀ d ∈ ds, d ∈ STEPSD) (hl : ds.length ≤ 100) : TxS 6000 (rowText ds) := by
  unfold rowText
  split
  · exact ⟨by decide +kernel, by
      intro c hc
      have : ∀ c ∈ TL.tl "nothing", c < 128 := by decide +kernel
      exact this c hc⟩
  · exact (texts_ps h).join.mono (by omega)
def SIGNS : Str := " !\"#$&'()*+,-./0123456789:;<=>?@ABCDEFGHIJKLMNOPQRSTUVWXYZ[\\]^_`abcdefghijklmnopqrstuvwxyz{|}~\n\t"
theorem signs_ok : SIGNS.cps.toList.all (fun c => decide (c < 128)) = true := by decide +kernel
def NEARS : List Str := ["", " ", "nothing", "Drop", "drop ", " drop", "drop all", "make", "make ", "make new", "make free",
  "make  all", "make all all", "start", "start standing", "start All", "start  new", "label",
  "tie", "tie none", "tie new ", " tie all", "tie all;drop", "drop,drop", "all", "free", "run",
  "label new.", "label any", "makes all"]
theorem tx_all {l : List Str} {n : Nat} (h : l.all (fun s => decide (s.length ≤ n) && (TL.tl s).all fun c => decide (c < 128)) = true) {s : Str} (hs : s ∈ l) : TxS n s := by
  have := List.all_eq_true.mp h s hs
  rw [Bool.and_eq_true] at this
  exact ⟨of_decide_eq_true this.1, fun c hc => of_decide_eq_true (List.all_eq_true.mp this.2 c hc)⟩
theorem nears_tx {s : Str} (hs : s ∈ NEARS) : TxS 100 s := tx_all (by decide +kernel) hs
def ApEdit : ASp := fun xs cs k => ∃ (ws : List PyData) (s : Str) (B : Int), xs = [.cel 0, .d (.str s)] ∧ cs = [.l ws] ∧ PotD ws B ∧ B < 2 ^ 45 ∧ TxS 6000 s ∧ ∀ s' ws', TxS 20000 s' → PotD ws' (B + 10) → k (.d (.str s')) [.l ws']
def ApNear : ASp := fun xs cs k => ∃ (ws : List PyData) (B : Int), xs = [.cel 0] ∧ cs = [.l ws] ∧ PotD ws B ∧ B < 2 ^ 45 ∧ ∀ s' ws', TxS 100 s' → PotD ws' (B + 10) → k (.d (.str s')) [.l ws']
def ApSpoil : ASp := fun xs cs k => ∃ (ws : List PyData) (s : Str) (B : Int), xs = [.cel 0, .d (.str s)] ∧ cs = [.l ws] ∧ PotD ws B ∧ B < 2 ^ 40 ∧ TxS 6000 s ∧ ∀ s' ws', TxS 300000 s' → PotD ws' (B + 300) → k (.d (.str s')) [.l ws']
section
variable {K : PySem.W.Frag} {C : Addr} {cs cs1 : List Cell} {E : AEnv} {k : AV → List Cell → Prop} {tas : TA} {X : XK}
theorem ev_text (h : Evs K C E cs tas fun xs cs1 => ∃ ds, xs = [.d (.tuple ds)] ∧ (∀ d ∈ ds, d ∈ STEPSD) ∧ ds.length ≤ 100 ∧ k (.d (.str (rowText ds))) cs1) : Ev K C E cs (tCall (spA K C ApText) [] X tas) k :=
  ev_callF fun F as H σ Q w e z => h F as H σ Q w e fun xs cs1 v F' as' H' ⟨ds, h1, h2, h3, h4⟩ => z xs cs1 v F' as' H' ⟨by rw [h1]; rfl, ds, h1, rfl, h2, h3, by
    show k (.d (.str _)) (putC cs1 [] [])
    rw [putC_nil]; exact h4⟩
theorem ev_edit (h : Evs K C E cs tas fun xs cs1 => ∃ (i : Nat) (ws : List PyData) (s : Str) (B : Int), xs = [.cel i, .d (.str s)] ∧ cs1[i]? = some (.l ws) ∧ PotD ws B ∧ B < 2 ^ 45 ∧ TxS 6000 s ∧ ∀ s' ws', TxS 20000 s' → PotD ws' (B + 10) → k (.d (.str s')) (cs1.set i (.l ws'))) : Ev K C E cs (tCall (spA K C ApEdit) [] X tas) k := ev_call1 fun F as H σ Q w e z => h F as H σ Q w e fun xs cs1 v F' as' H' ⟨i, ws, s, B, hx, hc, hp, hB, hs, hk⟩ => z xs cs1 v F' as' H' ⟨i, ws, [.str s], hx, hc, ws, s, B, rfl, rfl, hp, hB, hs, fun s' ws' r0 hp' => by
      have := hk s' ws' r0 hp'
      show k (.d (.str s')) (putC cs1 [i] [.l ws'])
      simp only [putC, List.append_nil]
      exact this⟩
theorem ev_near (h : Evs K C E cs tas fun xs cs1 => ∃ (i : Nat) (ws : List PyData) (B : Int), xs = [.cel i] ∧ cs1[i]? = some (.l ws) ∧ PotD ws B ∧ B < 2 ^ 45 ∧ ∀ s' ws', TxS 100 s' → PotD ws' (B + 10) → k (.d (.str s')) (cs1.set i (.l ws'))) : Ev K C E cs (tCall (spA K C ApNear) [] X tas) k := ev_call1 fun F as H σ Q w e z => h F as H σ Q w e fun xs cs1 v F' as' H' ⟨i, ws, B, hx, hc, hp, hB, hk⟩ => z xs cs1 v F' as' H' ⟨i, ws, [], hx, hc, ws, B, rfl, rfl, hp, hB, fun s' ws' r0 hp' => by
      have := hk s' ws' r0 hp'
      show k (.d (.str s')) (putC cs1 [i] [.l ws'])
      simp only [putC, List.append_nil]
      exact this⟩
theorem ev_spoil (h : Evs K C E cs tas fun xs cs1 => ∃ (i : Nat) (ws : List PyData) (s : Str) (B : Int), xs = [.cel i, .d (.str s)] ∧ cs1[i]? = some (.l ws) ∧ PotD ws B ∧ B < 2 ^ 40 ∧ TxS 6000 s ∧ ∀ s' ws', TxS 300000 s' → PotD ws' (B + 300) → k (.d (.str s')) (cs1.set i (.l ws'))) : Ev K C E cs (tCall (spA K C ApSpoil) [] X tas) k := ev_call1 fun F as H σ Q w e z => h F as H σ Q w e fun xs cs1 v F' as' H' ⟨i, ws, s, B, hx, hc, hp, hB, hs, hk⟩ => z xs cs1 v F' as' H' ⟨i, ws, [.str s], hx, hc, ws, s, B, rfl, rfl, hp, hB, hs, fun s' ws' r0 hp' => by
      have := hk s' ws' r0 hp'
      show k (.d (.str s')) (putC cs1 [i] [.l ws'])
      simp only [putC, List.append_nil]
      exact this⟩
end
section
variable {P : Program} {w : World} {K : PySem.W.Frag} {mg : Str → Option Value} {base : Heap}
theorem ok_script_text (T : Tx K mg) (C : Addr) : FnOk P w K mg base CX0 1 T.script_text.a T.script_text.fd ["row"] (spA K C ApText) := by
  refine T.script_text.F.ok sc_script_text (fun vs H Q E h => spA_len (l := 1) (fun xs cs k ⟨_, h, _⟩ => by rw [h]; rfl) h) (fun cdv A outer s H vs Q E hr h => ?_)
  obtain ⟨F, as, cs, xs, k, wd, ar, ⟨ds, rfl, rfl, hds, hl, hk⟩, q⟩ := h
  refine ⟨_, (pss_one (ps_ret (pe_ifExp (pt_cmpR (op_neDK K (hu65 hr)) (pv 0) (pe_tup pa_nil) (nomark _)) (pe_joinK K pe_str (pe_lc (own := [("step", 1)]) (g := (gName 1)) (tt := tYes) rfl sc_script_text.nd (pi_tupK K (pv 0)) (blkOk_by (N := ["row", "step"]) (sc := defScope s_script_text) (by decide +kernel)) (fun _ _ _ _ _ => pg_name (i := 1) sc_script_text.nd rfl (Or.inl rfl)) (fun _ _ _ _ _ => pts_nil) (fun _ _ _ _ _ => (pe_joinK K pe_str (pe_callTy (call_lstK K) (by rfl) T.b_list (by decide +kernel) (pa_cons (pv 1) pa_nil)))))) pe_str))), ?_⟩
  refine body_go [some (.d (.tuple ds)), none] (n := 0) rfl rfl wd ar ?_ q
  walk_at "a"
  have hf : Flat 2 (.tuple ds) := flat_tup fun d hd => ⟨(Bool.and_eq_true_iff.mp (step_is d (hds d hd)).2.1).1, by
    have : STEPSD.all (fun d => decide (PyData.depth d ≤ 1)) = true := by decide +kernel
    exact of_decide_eq_true (List.all_eq_true.mp this d (hds d hd))⟩
  refine o_neD rfl rfl (hf.shaped (by decide)) (by decide +kernel) ?_
  by_cases hne : ds = []
  · subst hne
    rw [show (!PyData.eqv (.tuple []) (.tuple [])) = false from rfl]
    refine isB (ite_f ?_)
    walk_at "a"
    exact Rt.cut 0 hk (Nat.le_refl 0) rfl rfl
  have he : (!PyData.eqv (.tuple ds) (.tuple [])) = true := by
    cases ds with
    | nil => exact absurd rfl hne
    | cons d ds => rfl
  rw [he]
  refine isB (ite_t ?_)
  refine ev_join ?_
  walk_at "a"
  refine ⟨_, rfl, ?_⟩
  refine ev_lcL 0 (ei_tupD ?_)
  walk_at "a"
  refine ⟨rfl, ds, fun _ => true, fun d => .str (stepText d), rfl, by omega, trivial, rfl, fun d hdm => ?_, ?_⟩
  · obtain ⟨e1, e2, _⟩ := step_words d (hds d hdm)
    refine egc_name (by simp) (et_yes ⟨rfl, rfl, fun _ => ?_⟩)
    show Ev _ _ _ _ _ _
    refine ev_join ?_
    walk_at "a"
    refine ⟨_, rfl, ?_⟩
    walk_at "a"
    refine on_lstTF (ds := (wordsD d).map PyData.str) (congrArg (fun z => tupOf (AV.d z)) e1) ?_
    exact ⟨wordsD d, .inl rfl, by have e3 : (" " : Str).length = 1 := rfl
                                  rw [e3]; omega, rfl, rfl⟩
  rw [List.filter_eq_self.mpr fun _ _ => rfl]
  have hs := (texts_ps hds).sum
  have e3 : (", " : Str).length = 2 := rfl
  refine ⟨ds.map stepText, .inl (by rw [List.map_map]; rfl), by rw [e3]; omega, ?_⟩
  refine Rt.cut 0 ?_ (Nat.le_refl 0) rfl rfl
  have : rowText ds = Txt.join ", " (ds.map stepText) := if_neg hne
  rw [← this]; exact hk
theorem ok_edit (T : Tx K mg) (C : Addr) : FnOk P w K mg base CX0 2 T.edit.a T.edit.fd ["well", "page"] (spA K C ApEdit) := by
  have G_draw := ok_draw (P := P) (w := w) (base := base) T C
  refine T.edit.F.ok sc_edit (fun vs H Q E h => spA_len (l := 2) (fun xs cs k ⟨_, _, _, h, _⟩ => by rw [h]; rfl) h) (fun cdv A outer s H vs Q E hr h => ?_)
  obtain ⟨F, as, cs, xs, k, wd, ar, ⟨ws, s, B, rfl, rfl, hp, hB, hs, hk⟩, q⟩ := h
  refine ⟨_, (pss_cons (ps_set (i := 2) sc_edit.nd rfl (Or.inl rfl) pe_str)
  (pss_cons (ps_par (i := 3) (j := 4) rfl sc_edit.nd rfl rfl (by decide) rfl rfl (pa_cons (pe_call G_draw (hr.mono (by first | decide | omega)) rfl T.draw.g T.draw.F.kp T.draw.b .nil pass0 (pa_cons (pv 0) (pa_cons pe_int pa_nil))) (pa_cons (pe_call G_draw (hr.mono (by first | decide | omega)) rfl T.draw.g T.draw.F.kp T.draw.b .nil pass0 (pa_cons (pv 0) (pa_cons (pe_op op_add (pe_callB call_len_str (by rfl) T.b_len (by decide +kernel) (pa_cons (pv 1) pa_nil)) pe_int) pa_nil))) pa_nil)) rfl)
  (pss_cons (ps_set (i := 5) sc_edit.nd rfl (Or.inl rfl) (pe_ix ix_str (pv 2) (pe_call G_draw (hr.mono (by first | decide | omega)) rfl T.draw.g T.draw.F.kp T.draw.b .nil pass0 (pa_cons (pv 0) (pa_cons (pe_callB call_len_str (by rfl) T.b_len (by decide +kernel) (pa_cons (pv 2) pa_nil)) pa_nil))) (fun _ _ => rfl)))
  (pss_cons (ps_if (pt_cmpR op_eq (pv 3) pe_int (nomark _))
  (pss_one (ps_ret (pe_op op_add_str (pe_slice C8.sl_txt (pv 1) po_no (po_some (pv 4))) (pe_slice C8.sl_txt (pv 1) (po_some (pe_op op_add (pv 4) pe_int)) po_no))))
  pss_nil)
  (pss_cons (ps_if (pt_cmpR op_eq (pv 3) pe_int (nomark _))
  (pss_one (ps_ret (pe_op op_add_str (pe_op op_add_str (pe_slice C8.sl_txt (pv 1) po_no (po_some (pv 4))) (pv 5)) (pe_slice C8.sl_txt (pv 1) (po_some (pe_op op_add (pv 4) pe_int)) po_no))))
  pss_nil)
  (C8.pss_cut (ps_if (pt_cmpR op_eq (pv 3) pe_int (nomark _))
  (pss_one (ps_set (i := 5) sc_edit.nd rfl (Or.inl rfl) (pe_ix ix_str pe_str (pe_call G_draw (hr.mono (by first | decide | omega)) rfl T.draw.g T.draw.F.kp T.draw.b .nil pass0 (pa_cons (pv 0) (pa_cons pe_int pa_nil))) (fun _ _ => rfl))))
  pss_nil)
  (pss_one (ps_ret (pe_op op_add_str (pe_op op_add_str (pe_slice C8.sl_txt (pv 1) po_no (po_some (pv 4))) (pv 5)) (pe_slice C8.sl_txt (pv 1) (po_some (pv 4)) po_no)))))))))), ?_⟩
  refine body_go [some (.cel 0), some (.d (.str s)), none, none, none, none] (n := 1) rfl rfl wd ar ?_ q
  walk_at "a"
  refine ev_draw ?_
  walk_at "a"
  refine ⟨0, _, ws, B, rfl, rfl, hp, by omega, by decide, by decide, fun r1 ws1 a1 b1 p1 => ?_⟩
  walk_at "a"
  refine ev_draw ?_
  walk_at "a"
  refine on_lenS (Nat.le_trans hs.len (by decide)) ?_
  walk_at "a"
  have hsl := hs.len
  refine ⟨0, _, ws1, B + 1, rfl, rfl, p1, by omega, by omega, by omega, fun at_ ws2 a2 b2 p2 => ?_⟩
  walk_at "a"
  refine ev_draw ?_
  walk_at "a"
  refine on_lenS (by decide +kernel) ?_
  walk_at "a"
  refine ⟨0, _, ws2, B + 2, rfl, rfl, p2.mono (by omega), by omega, by decide +kernel, by decide +kernel, fun r3 ws3 a3 b3 p3 => ?_⟩
  obtain ⟨c, hc, hc2⟩ : ∃ c, atI SIGNS.cps.toList r3 = some c ∧ c < 128 := by
    obtain ⟨i, rfl⟩ : ∃ i : Nat, r3 = (i : Int) := ⟨r3.toNat, by omega⟩
    have b3 : (i : Int) < (SIGNS.length : Int) := b3
    have hi : i < SIGNS.cps.toList.length := by show i < SIGNS.length; omega
    exact ⟨_, atI_nat (List.getElem?_eq_getElem hi), of_decide_eq_true (List.all_eq_true.mp signs_ok _ (List.getElem_mem hi))⟩
  refine o_ixS (by decide +kernel) hc ?_
  have tc := TxS.char hc2
  have hsl2 : s.length ≤ 16777216 := by omega
  walk_at "a"
  refine iteB (fun c0 => ?_) (fun c0 => ?_)
  · walk_at "a"
    refine os_txt hsl2 ?_
    walk_at "a"
    refine os_txt hsl2 ?_
    have t1 := hs.slice none (some at_)
    have t2 := hs.slice (some (at_ + 1)) none
    refine o_addS (by have := t1.len; have := t2.len; omega) ?_
    exact Rt.cut 1 (hk _ ws3 ((t1.app t2).mono (by omega)) (p3.mono (by omega))) (Nat.le_refl 1) rfl rfl
  walk_at "a"
  refine iteB (fun c1 => ?_) (fun c1 => ?_)
  · walk_at "a"
    refine os_txt hsl2 ?_
    walk_at "a"
    have t1 := hs.slice none (some at_)
    have t2 := hs.slice (some (at_ + 1)) none
    refine o_addS (by have := t1.len; have := tc.len; omega) ?_
    walk_at "a"
    refine os_txt hsl2 ?_
    refine o_addS (by have := (t1.app tc).len; have := t2.len; omega) ?_
    exact Rt.cut 1 (hk _ ws3 (((t1.app tc).app t2).mono (by omega)) (p3.mono (by omega))) (Nat.le_refl 1) rfl rfl
  refine ex_next ?_
  refine ex_midC (fun E' cs' => ∃ (sg : Str) (ws' : List PyData) (x2 : Option AV), E' = [some (.cel 0), some (.d (.str s)), x2, some (.d (.int r1)), some (.d (.int at_)), some (.d (.str sg))] ∧ cs' = [.l ws'] ∧ TxS 1 sg ∧ PotD ws' (B + 4)) ?_ ?_
  · walk_at "a"
    refine iteB (fun c2 => ?_) (fun c2 => ?_)
    · walk_at "a"
      refine ev_draw ?_
      walk_at "a"
      refine ⟨0, _, ws3, B + 3, rfl, rfl, p3.mono (by omega), by omega, by decide, by decide, fun r4 ws4 a4 b4 p4 => ?_⟩
      obtain ⟨d, hd, hd2⟩ : ∃ c, atI (" ,-0a9" : Str).cps.toList r4 = some c ∧ c < 128 := by
        obtain ⟨i, rfl⟩ : ∃ i : Nat, r4 = (i : Int) := ⟨r4.toNat, by omega⟩
        have hi : i < (" ,-0a9" : Str).cps.toList.length := by show i < 6; omega
        exact ⟨_, atI_nat (List.getElem?_eq_getElem hi), of_decide_eq_true (List.all_eq_true.mp (show (" ,-0a9" : Str).cps.toList.all (fun c => decide (c < 128)) = true by decide +kernel) _ (List.getElem_mem hi))⟩
      refine o_ixS (by decide +kernel) hd ?_
      exact Cm.here ⟨_, ws4, _, rfl, rfl, TxS.char hd2, p4.mono (by omega)⟩
    · walk_at "a"
      exact Cm.here ⟨_, ws3, _, rfl, rfl, tc, p3.mono (by omega)⟩
  · rintro E' cs' ⟨sg, ws4, x2, rfl, rfl, tg, p4⟩
    walk_at "a"
    refine os_txt hsl2 ?_
    walk_at "a"
    have t1 := hs.slice none (some at_)
    have t2 := hs.slice (some at_) none
    refine o_addS (by have := t1.len; have := tg.len; omega) ?_
    walk_at "a"
    refine os_txt hsl2 ?_
    refine o_addS (by have := (t1.app tg).len; have := t2.len; omega) ?_
    exact Rt.cut 1 (hk _ ws4 (((t1.app tg).app t2).mono (by omega)) (p4.mono (by omega))) (Nat.le_refl 1) rfl rfl
theorem ok_near (T : Tx K mg) (C : Addr) : FnOk P w K mg base CX0 2 T.near_part.a T.near_part.fd ["well"] (spA K C ApNear) := by
  have G_draw := ok_draw (P := P) (w := w) (base := base) T C
  refine T.near_part.F.ok sc_near_part (fun vs H Q E h => spA_len (l := 1) (fun xs cs k ⟨_, _, h, _⟩ => by rw [h]; rfl) h) (fun cdv A outer s H vs Q E hr h => ?_)
  obtain ⟨F, as, cs, xs, k, wd, ar, ⟨ws, B, rfl, rfl, hp, hB, hk⟩, q⟩ := h
  refine ⟨_, (pss_cons (ps_set (i := 1) sc_near_part.nd rfl (Or.inl rfl) (pe_lst (pa_cons pe_str (pa_cons pe_str (pa_cons pe_str (pa_cons pe_str (pa_cons pe_str (pa_cons pe_str (pa_cons pe_str (pa_cons pe_str (pa_cons pe_str (pa_cons pe_str (pa_cons pe_str pa_nil)))))))))))))
  (pss_cons (ps_set (i := 1) sc_near_part.nd rfl (Or.inl rfl) (pe_op op_cat (pv 1) (pe_lst (pa_cons pe_str (pa_cons pe_str (pa_cons pe_str (pa_cons pe_str (pa_cons pe_str (pa_cons pe_str (pa_cons pe_str pa_nil))))))))))
  (pss_cons (ps_set (i := 1) sc_near_part.nd rfl (Or.inl rfl) (pe_op op_cat (pv 1) (pe_lst (pa_cons pe_str (pa_cons pe_str (pa_cons pe_str (pa_cons pe_str (pa_cons pe_str (pa_cons pe_str (pa_cons pe_str (pa_cons pe_str (pa_cons pe_str pa_nil))))))))))))
  (pss_cons (ps_set (i := 1) sc_near_part.nd rfl (Or.inl rfl) (pe_op op_cat (pv 1) (pe_lst (pa_cons pe_str (pa_cons pe_str (pa_cons pe_str pa_nil))))))
  (pss_one (ps_ret (pe_ix (ix_listK K) (pv 1) (pe_call G_draw (hr.mono (by first | decide | omega)) rfl T.draw.g T.draw.F.kp T.draw.b .nil pass0 (pa_cons (pv 0) (pa_cons (pe_callB (call_lenK K) (by rfl) T.b_len (by decide +kernel) (pa_cons (pv 1) pa_nil)) pa_nil))) (fun _ _ => rfl)))))))), ?_⟩
  refine body_go [some (.cel 0), none] (n := 1) rfl rfl wd ar ?_ q
  walk_at "a"
  refine ev_lstD ?_
  walk_at "a"
  refine ev_lstD ?_
  walk_at "a"
  refine o_cat (i := 1) (j := 2) rfl rfl (by decide) ?_
  walk_at "a"
  refine ev_lstD ?_
  walk_at "a"
  refine o_cat (i := 3) (j := 4) rfl rfl (by decide) ?_
  walk_at "a"
  refine ev_lstD ?_
  walk_at "a"
  refine o_cat (i := 5) (j := 6) rfl rfl (by decide) ?_
  walk_at "a"
  refine ev_draw ?_
  walk_at "a"
  refine ⟨0, _, ws, B, rfl, rfl, hp, by omega, by decide, by decide, fun r1 ws1 a1 b1 p1 => ?_⟩
  obtain ⟨i, rfl⟩ : ∃ i : Nat, r1 = (i : Int) := ⟨r1.toNat, by omega⟩
  have b1 : (i : Int) < (30 : Int) := b1
  have hi : i < NEARS.length := by show i < 30; omega
  refine o_ixL (ds := NEARS.map PyData.str) (d := .str NEARS[i]) (by rfl) (atI_nat (by rw [List.getElem?_map, List.getElem?_eq_getElem hi]; rfl)) ?_
  exact Rt.cut 1 (hk _ ws1 (nears_tx (List.getElem_mem hi)) (p1.mono (by omega))) (Nat.le_refl 1) rfl rfl
theorem ok_spoilt (T : Tx K mg) (C : Addr) : FnOk P w K mg base CX0 4 T.spoilt.a T.spoilt.fd ["well", "page"] (spA K C ApSpoil) := by
  have G_draw := ok_draw (P := P) (w := w) (base := base) T C
  have G_edit := ok_edit (P := P) (w := w) (base := base) T C
  have G_near_part := ok_near (P := P) (w := w) (base := base) T C
  have G_row := ok_row (P := P) (w := w) (base := base) T C
  refine T.spoilt.F.ok sc_spoilt (fun vs H Q E h => spA_len (l := 2) (fun xs cs k ⟨_, _, _, h, _⟩ => by rw [h]; rfl) h) (fun cdv A outer s H vs Q E hr h => ?_)
  obtain ⟨F, as, cs, xs, k, wd, ar, ⟨ws, s, B, rfl, rfl, hp, hB, hs, hk⟩, q⟩ := h
  refine ⟨_, (pss_cons (ps_set (i := 2) sc_spoilt.nd rfl (Or.inl rfl) (pe_call G_draw (hr.mono (by first | decide | omega)) rfl T.draw.g T.draw.F.kp T.draw.b .nil pass0 (pa_cons (pv 0) (pa_cons pe_int pa_nil))))
  (pss_cons (ps_if (pt_cmpR op_lt (pv 2) pe_int (nomark _))
  (pss_one (ps_ret (pe_call G_edit (hr.mono (by first | decide | omega)) rfl T.edit.g T.edit.F.kp T.edit.b .nil pass0 (pa_cons (pv 0) (pa_cons (pv 1) pa_nil)))))
  pss_nil)
  (pss_cons (ps_set (i := 3) sc_spoilt.nd rfl (Or.inl rfl) (pe_split (pv 1) pe_str))
  (pss_cons (ps_par (i := 4) (j := 5) rfl sc_spoilt.nd rfl rfl (by decide) rfl rfl (pa_cons (pe_call G_draw (hr.mono (by first | decide | omega)) rfl T.draw.g T.draw.F.kp T.draw.b .nil pass0 (pa_cons (pv 0) (pa_cons (pe_callB (call_lenK K) (by rfl) T.b_len (by decide +kernel) (pa_cons (pv 3) pa_nil)) pa_nil))) (pa_cons (pe_call G_draw (hr.mono (by first | decide | omega)) rfl T.draw.g T.draw.F.kp T.draw.b .nil pass0 (pa_cons (pv 0) (pa_cons (pe_callB (call_lenK K) (by rfl) T.b_len (by decide +kernel) (pa_cons (pv 3) pa_nil)) pa_nil))) pa_nil)) rfl)
  (C8.pss_cut (ps_if (pt_cmpR op_lt (pv 2) pe_int (nomark _))
  (pss_one (ps_expr (pe_bmK2 K PySem.F.plainAttrs_list PySem.F.slot_list_insert PySem.F.type_list_insert mt_insert (pv 3) (pa_cons (pe_op op_add (pv 4) (pe_op op_mod (pe_callTy call_int1 (by rfl) T.b_int (by decide +kernel) (pa_cons (pv 5) pa_nil)) pe_int)) (pa_cons (pe_call G_near_part (hr.mono (by first | decide | omega)) rfl T.near_part.g T.near_part.F.kp T.near_part.b .nil pass0 (pa_cons (pv 0) pa_nil)) pa_nil)))))
  (pss_one (ps_if (pt_cmpR op_eq (pv 2) pe_int (nomark _))
  (pss_one (ps_expr (pe_bmK2 K PySem.F.plainAttrs_list PySem.F.slot_list_insert PySem.F.type_list_insert mt_insert (pv 3) (pa_cons (pv 4) (pa_cons (pe_ix (ix_listK K) (pv 3) (pv 5) (fun _ _ => rfl)) pa_nil)))))
  (pss_one (ps_if (PW.pt (pw_and (pt_cmpR op_eq (pv 2) pe_int (nomark _)) (pw_and1 (pt_cmpR op_gt (pe_callB (call_lenK K) (by rfl) T.b_len (by decide +kernel) (pa_cons (pv 3) pa_nil)) pe_int (nomark _)))))
  (pss_one (ps_expr (pe_bmK2 K PySem.F.plainAttrs_list PySem.F.slot_list_pop PySem.F.type_list_pop mt_popAt (pv 3) (pa_cons (pv 4) pa_nil))))
  (pss_one (ps_if (pt_cmpR op_eq (pv 2) pe_int (nomark _))
  (pss_one (ps_set (i := 3) sc_spoilt.nd rfl (Or.inl rfl) (pe_op op_rep (pv 3) (pe_op op_add pe_int (pe_call G_draw (hr.mono (by first | decide | omega)) rfl T.draw.g T.draw.F.kp T.draw.b .nil pass0 (pa_cons (pv 0) (pa_cons pe_int pa_nil)))))))
  (pss_one (ps_expr (pe_bmK2 K PySem.F.plainAttrs_list PySem.F.slot_list_extend PySem.F.type_list_extend mt_extend (pv 3) (pa_cons (pe_lc (own := [("step", 6)]) (g := (gName 6)) (tt := tYes) rfl sc_spoilt.nd (pi_tupK K (pe_call G_row (hr.mono (by first | decide | omega)) rfl T.row.g T.row.F.kp T.row.b .nil pass0 (pa_cons (pv 0) (pa_cons pe_int pa_nil)))) (blkOk_by (N := ["well", "page", "way", "parts", "spot", "other", "step"]) (sc := defScope s_spoilt) (by decide +kernel)) (fun _ _ _ _ _ => pg_name (i := 6) sc_spoilt.nd rfl (Or.inl rfl)) (fun _ _ _ _ _ => pts_nil) (fun _ _ _ _ _ => (pe_joinK K pe_str (pe_callTy (call_lstK K) (by rfl) T.b_list (by decide +kernel) (pa_cons (pv 6) pa_nil))))) pa_nil)))))))))))
  (pss_one (ps_ret (pe_joinK K pe_str (pe_slice (sl_listK K) (pv 3) po_no (po_some pe_int)))))))))), ?_⟩
  refine body_go [some (.cel 0), some (.d (.str s)), none, none, none, none, none] (n := 1) rfl rfl wd ar ?_ q
  walk_at "a"
  refine ev_draw ?_
  walk_at "a"
  refine ⟨0, _, ws, B, rfl, rfl, hp, by omega, by decide, by decide, fun way ws1 a1 b1 p1 => ?_⟩
  walk_at "a"
  refine iteB (fun c0 => ?_) (fun c0 => ?_)
  · walk_at "a"
    refine ev_edit ?_
    walk_at "a"
    refine ⟨0, ws1, s, B + 1, rfl, rfl, p1, by omega, hs, fun s' ws2 t2 p2 => ?_⟩
    exact Rt.cut 1 (hk _ ws2 (t2.mono (by omega)) (p2.mono (by omega))) (Nat.le_refl 1) rfl rfl
  walk_at "a"
  have hsl := hs.len
  have hps := PS.split hs
  have hlen : (Txt.split s ", ").length ≤ 3001 := by have := hps.sum; omega
  have hlen1 : 1 ≤ (Txt.split s ", ").length := (split_all hs (y := ", ") (by decide +kernel) (by decide +kernel)).1
  refine ev_split ?_
  walk_at "a"
  refine ⟨s, rfl, ?_⟩
  walk_at "a"
  refine ⟨_, rfl, by decide +kernel, by omega, ?_⟩
  walk_at "a"
  refine ev_draw ?_
  walk_at "a"
  have hlm : ((Txt.split s ", ").map PyData.str).length = (Txt.split s ", ").length := List.length_map ..
  refine ⟨0, _, ws1, B + 1, rfl, rfl, p1, by omega, by rw [hlm]; omega, by rw [hlm]; omega, fun spot ws2 a2 b2 p2 => ?_⟩
  rw [hlm] at b2
  walk_at "a"
  refine ev_draw ?_
  walk_at "a"
  refine ⟨0, _, ws2, B + 2, rfl, rfl, p2.mono (by omega), by omega, by rw [hlm]; omega, by rw [hlm]; omega, fun other ws3 a3 b3 p3 => ?_⟩
  rw [hlm] at b3
  walk_at "a"
  show Ex _ _ _ _ _ _ _
  refine ex_midC (fun E' cs' => ∃ (ws' : List PyData) (ps : List Str) (x1 x2 x4 x5 x6 : Option AV), E' = [some (.cel 0), x1, x2, some (.cel 1), x4, x5, x6] ∧ cs' = [.l ws', .l (ps.map PyData.str)] ∧ PS 300000 ps ∧ PotD ws' (B + 300)) ?_ ?_
  · obtain ⟨sp, rfl⟩ : ∃ i : Nat, spot = (i : Int) := ⟨spot.toNat, by omega⟩
    obtain ⟨ot, rfl⟩ : ∃ i : Nat, other = (i : Int) := ⟨other.toNat, by omega⟩
    walk_at "a"
    refine iteB (fun c1 => ?_) (fun c1 => ?_)
    · walk_at "a"
      refine ⟨ty_l (by rfl), ?_⟩
      walk_at "a"
      refine o_intC (show (0 : Int) < 2 by decide) ?_
      walk_at "a"
      refine ev_near ?_
      walk_at "a"
      refine ⟨0, ws3, B + 3, rfl, rfl, p3.mono (by omega), by omega, fun nr ws4 tn p4 => ?_⟩
      have h2 : 0 ≤ (ot : Int) % 2 := Int.emod_nonneg _ (by decide)
      have h3 : (ot : Int) % 2 < 2 := Int.emod_lt_of_pos _ (by decide)
      walk_at "a"
      refine om_insert (i := 1) (ds := (Txt.split s ", ").map PyData.str) (by rfl) (by rw [hlm]; omega) (by omega) (by omega) ?_
      refine Cm.here ⟨ws4, (Txt.split s ", ").take ((sp : Int) + (ot : Int) % 2).toNat ++ [nr] ++ (Txt.split s ", ").drop ((sp : Int) + (ot : Int) % 2).toNat, _, _, _, _, _, rfl, ?_, (hps.ins tn _).mono (by omega), p4.mono (by omega)⟩
      rw [List.map_append, List.map_append, List.map_take, List.map_drop]; rfl
    walk_at "a"
    refine iteB (fun c2 => ?_) (fun c2 => ?_)
    · walk_at "a"
      refine ⟨ty_l (by rfl), ?_⟩
      walk_at "a"
      have hot : ot < (Txt.split s ", ").length := by omega
      refine o_ixL (ds := (Txt.split s ", ").map PyData.str) (d := .str (Txt.split s ", ")[ot]) (by rfl) (atI_nat (by rw [List.getElem?_map, List.getElem?_eq_getElem hot]; rfl)) ?_
      walk_at "a"
      refine om_insert (i := 1) (ds := (Txt.split s ", ").map PyData.str) (by rfl) (by rw [hlm]; omega) (by omega) (by omega) ?_
      refine Cm.here ⟨ws3, (Txt.split s ", ").take (sp : Int).toNat ++ [(Txt.split s ", ")[ot]] ++ (Txt.split s ", ").drop (sp : Int).toNat, _, _, _, _, _, rfl, ?_, (hps.ins (hps.one (List.getElem_mem hot)) _).mono (by omega), p3.mono (by omega)⟩
      rw [List.map_append, List.map_append, List.map_take, List.map_drop]; rfl
    walk_at "a"
    refine iteB (fun c7 => ?_) (fun c7 => ?_)
    · walk_at "a"
      refine iteB (fun c71 => ?_) (fun c71 => ?_)
      · walk_at "a"
        refine ⟨ty_l (by rfl), ?_⟩
        walk_at "a"
        have hsp : sp < (Txt.split s ", ").length := by omega
        refine om_popAt (i := 1) (j := sp) (ds := (Txt.split s ", ").map PyData.str) (d := .str (Txt.split s ", ")[sp]) (by rfl) (by rw [List.getElem?_map, List.getElem?_eq_getElem hsp]; rfl) (by rw [hlm]; omega) ?_
        refine Cm.here ⟨ws3, (Txt.split s ", ").eraseIdx sp, _, _, _, _, _, rfl, ?_, (hps.erase sp).mono (by omega), p3.mono (by omega)⟩
        rw [show ((Txt.split s ", ").map PyData.str).eraseIdx sp = ((Txt.split s ", ").eraseIdx sp).map PyData.str by rw [List.eraseIdx_eq_take_drop_succ, List.eraseIdx_eq_take_drop_succ, List.map_append, List.map_take, List.map_drop]]; rfl
      walk_at "a"
      refine iteB (fun c8 => ?_) (fun c8 => ?_)
      · walk_at "a"
        refine ev_draw ?_
        walk_at "a"
        refine ⟨0, _, ws3, B + 3, rfl, rfl, p3.mono (by omega), by omega, by decide, by decide, fun r4 ws4 a4 b4 p4 => ?_⟩
        walk_at "a"
        obtain ⟨rn, rfl⟩ : ∃ i : Nat, r4 = (i : Int) := ⟨r4.toNat, by omega⟩
        have hrn : ((1 : Int) + (rn : Int)).toNat = rn + 1 := by omega
        have hmul : (Txt.split s ", ").length * (rn + 1) ≤ 3001 * 40 := Nat.mul_le_mul hlen (by omega)
        refine o_repB (i := 1) (ds := (Txt.split s ", ").map PyData.str) (by rfl) (by omega) (by omega) (by rw [hlm, hrn]; omega) ?_
        have hrep : (List.replicate ((1 : Int) + (rn : Int)).toNat ((Txt.split s ", ").map PyData.str)).flatten = ((List.replicate (rn + 1) (Txt.split s ", ")).flatten).map PyData.str := by
          rw [hrn, List.map_flatten, List.map_replicate]
        rw [hrep]
        have hmul2 : (rn + 1) * (6000 + 2) ≤ 40 * 6002 := Nat.mul_le_mul (by omega) (Nat.le_refl _)
        exact Cm.sel [0, 2] (E1 := [some (.cel 0), none, none, some (.cel 1), none, none, none]) (cs1 := [.l ws4, .l (((List.replicate (rn + 1) (Txt.split s ", ")).flatten).map PyData.str)]) ⟨by decide, rfl, ⟨rfl, rfl, rfl, rfl, trivial⟩, rfl, rfl⟩ ⟨ws4, _, _, _, _, _, _, rfl, rfl, (hps.rep (rn + 1)).mono (by omega), p4.mono (by omega)⟩
      walk_at "a"
      refine ⟨ty_l (by rfl), ?_⟩
      walk_at "a"
      refine ev_lcL 2 (ei_tupD ?_)
      refine ev_row ?_
      walk_at "a"
      refine ⟨0, 13, ws3, B + 3, rfl, rfl, p3.mono (by omega), by omega, by decide, by decide, fun ds ws4 hds hdl p4 => ?_⟩
      refine ⟨_, rfl, rfl, ds, fun _ => true, fun d => .str (stepText d), rfl, by omega, trivial, rfl, fun d hdm => ?_, ?_⟩
      · obtain ⟨e1, e2, _⟩ := step_words d (hds d hdm)
        refine egc_name (by simp) (et_yes ⟨rfl, rfl, fun _ => ?_⟩)
        show Ev _ _ _ _ _ _
        refine ev_join ?_
        walk_at "a"
        refine ⟨_, rfl, ?_⟩
        walk_at "a"
        refine on_lstTF (ds := (wordsD d).map PyData.str) (congrArg (fun z => tupOf (AV.d z)) e1) ?_
        exact ⟨wordsD d, .inl rfl, by have e3 : (" " : Str).length = 1 := rfl
                                      rw [e3]; omega, rfl, rfl⟩
      rw [List.filter_eq_self.mpr fun _ _ => rfl]
      walk_at "a"
      refine om_extend (i := 1) (j := 2) (ds := (Txt.split s ", ").map PyData.str) (es := ds.map fun d => .str (stepText d)) (by rfl) (by rfl) (by rw [hlm, List.length_map]; omega) ?_
      refine Cm.sel [0, 1] (E1 := [some (.cel 0), none, none, some (.cel 1), none, none, none]) (cs1 := [.l ws4, .l ((Txt.split s ", ").map PyData.str ++ ds.map fun d => .str (stepText d))]) ⟨by decide, rfl, ⟨rfl, rfl, rfl, rfl, trivial⟩, rfl, rfl⟩ ⟨ws4, Txt.split s ", " ++ ds.map stepText, _, _, _, _, _, rfl, ?_, (hps.app (texts_ps hds)).mono (by omega), p4.mono (by omega)⟩
      rw [List.map_append, List.map_map]; rfl
    walk_at "a"
    refine iteB (fun c8 => ?_) (fun c8 => ?_)
    · walk_at "a"
      refine ev_draw ?_
      walk_at "a"
      refine ⟨0, _, ws3, B + 3, rfl, rfl, p3.mono (by omega), by omega, by decide, by decide, fun r4 ws4 a4 b4 p4 => ?_⟩
      walk_at "a"
      obtain ⟨rn, rfl⟩ : ∃ i : Nat, r4 = (i : Int) := ⟨r4.toNat, by omega⟩
      have hrn : ((1 : Int) + (rn : Int)).toNat = rn + 1 := by omega
      have hmul : (Txt.split s ", ").length * (rn + 1) ≤ 3001 * 40 := Nat.mul_le_mul hlen (by omega)
      refine o_repB (i := 1) (ds := (Txt.split s ", ").map PyData.str) (by rfl) (by omega) (by omega) (by rw [hlm, hrn]; omega) ?_
      have hrep : (List.replicate ((1 : Int) + (rn : Int)).toNat ((Txt.split s ", ").map PyData.str)).flatten = ((List.replicate (rn + 1) (Txt.split s ", ")).flatten).map PyData.str := by
        rw [hrn, List.map_flatten, List.map_replicate]
      rw [hrep]
      have hmul2 : (rn + 1) * (6000 + 2) ≤ 40 * 6002 := Nat.mul_le_mul (by omega) (Nat.le_refl _)
      exact Cm.sel [0, 2] (E1 := [some (.cel 0), none, none, some (.cel 1), none, none, none]) (cs1 := [.l ws4, .l (((List.replicate (rn + 1) (Txt.split s ", ")).flatten).map PyData.str)]) ⟨by decide, rfl, ⟨rfl, rfl, rfl, rfl, trivial⟩, rfl, rfl⟩ ⟨ws4, _, _, _, _, _, _, rfl, rfl, (hps.rep (rn + 1)).mono (by omega), p4.mono (by omega)⟩
    walk_at "a"
    refine ⟨ty_l (by rfl), ?_⟩
    walk_at "a"
    refine ev_lcL 2 (ei_tupD ?_)
    refine ev_row ?_
    walk_at "a"
    refine ⟨0, 13, ws3, B + 3, rfl, rfl, p3.mono (by omega), by omega, by decide, by decide, fun ds ws4 hds hdl p4 => ?_⟩
    refine ⟨_, rfl, rfl, ds, fun _ => true, fun d => .str (stepText d), rfl, by omega, trivial, rfl, fun d hdm => ?_, ?_⟩
    · obtain ⟨e1, e2, _⟩ := step_words d (hds d hdm)
      refine egc_name (by simp) (et_yes ⟨rfl, rfl, fun _ => ?_⟩)
      show Ev _ _ _ _ _ _
      refine ev_join ?_
      walk_at "a"
      refine ⟨_, rfl, ?_⟩
      walk_at "a"
      refine on_lstTF (ds := (wordsD d).map PyData.str) (congrArg (fun z => tupOf (AV.d z)) e1) ?_
      exact ⟨wordsD d, .inl rfl, by have e3 : (" " : Str).length = 1 := rfl
                                    rw [e3]; omega, rfl, rfl⟩
    rw [List.filter_eq_self.mpr fun _ _ => rfl]
    walk_at "a"
    refine om_extend (i := 1) (j := 2) (ds := (Txt.split s ", ").map PyData.str) (es := ds.map fun d => .str (stepText d)) (by rfl) (by rfl) (by rw [hlm, List.length_map]; omega) ?_
    refine Cm.sel [0, 1] (E1 := [some (.cel 0), none, none, some (.cel 1), none, none, none]) (cs1 := [.l ws4, .l ((Txt.split s ", ").map PyData.str ++ ds.map fun d => .str (stepText d))]) ⟨by decide, rfl, ⟨rfl, rfl, rfl, rfl, trivial⟩, rfl, rfl⟩ ⟨ws4, Txt.split s ", " ++ ds.map stepText, _, _, _, _, _, rfl, ?_, (hps.app (texts_ps hds)).mono (by omega), p4.mono (by omega)⟩
    rw [List.map_append, List.map_map]; rfl
  · rintro E' cs' ⟨ws4, ps, x1, x2, x4, x5, x6, rfl, rfl, hp4, p4⟩
    walk_at "a"
    refine ev_join ?_
    walk_at "a"
    refine ⟨_, rfl, ?_⟩
    walk_at "a"
    refine os_lst (ds := ps.map PyData.str) (by rfl) ?_
    have ht : cutD (ps.map PyData.str) none (some 420) = (ps.take 420).map PyData.str := by
      rw [List.map_take]; exact cutD_to (n := 420)
    rw [ht]
    have h4 := hp4.take 420
    have e3 : (", " : Str).length = 2 := rfl
    refine ⟨ps.take 420, .inl (by rfl), by rw [e3]; have := h4.sum; omega, ?_⟩
    exact Rt.cut 1 (hk _ ws4 h4.join p4) (Nat.le_refl 1) rfl rfl
end
end Y

set_option pp.deepTerms false
set_option pp.deepTerms.threshold 8
/-! # texts of scripts that are refused -/
namespace Y
open PySem L2
local macro_rules | `(tactic| walk_at "a") => `(tactic| repeat (first
  | (with_reducible apply ev_int) | (with_reducible apply ev_str) | (with_reducible apply ev_bl) | (with_reducible apply ev_non) | (with_reducible apply ev_ty)
  | ((with_reducible apply ev_var); · rfl)
  | (with_reducible apply ev_op) | (with_reducible apply ev_un) | (with_reducible apply evs_nil) | (with_reducible apply evs_cons) | (with_reducible apply ev_cb) | (with_reducible apply ev_if)
  | (with_reducible apply et_test) | (with_reducible apply et_B) | (with_reducible apply et_and) | (with_reducible apply et_or) | (with_reducible apply et_not)
  | (with_reducible apply ex_seq) | (with_reducible apply ex_name) | (with_reducible apply ex_to) | (with_reducible apply ex_ret) | (with_reducible apply ex_if) | (with_reducible apply ex_drop) | (with_reducible apply ex_retN) | (with_reducible apply ex_next)
  | (with_reducible apply ex_par) | (with_reducible apply ex_par3) | (with_reducible apply eg_sub) | (with_reducible apply eg_name)
  | (with_reducible apply o_int) | (with_reducible apply o_bl) | (with_reducible apply o1_neg)
  | (with_reducible apply ev_andV) | (with_reducible apply ev_orV) | (with_reducible apply ev_notV)
  | (with_reducible apply ev_sl) | (with_reducible apply eo_part) | (with_reducible apply eo_no) | (with_reducible apply ev_bm) | (with_reducible apply ev_bm0)
  | (with_reducible apply ite_f) | (with_reducible apply ite_t) | (with_reducible apply ev_tupD) | (with_reducible apply ev_chain)
  | ((with_reducible apply o_ixL); (· rfl); (· rfl)) | ((with_reducible apply o_ixT); (· rfl); (· rfl))
  | ((with_reducible apply o_eq); (· rfl); (· rfl); (· rfl)) | ((with_reducible apply o_ne); (· rfl); (· rfl); (· rfl))
  | (with_reducible apply o_isN) | (with_reducible apply o_notN)
  | (with_reducible apply on_int) | (with_reducible apply on_intB) | (with_reducible apply on_max) | (with_reducible apply on_min) | (with_reducible apply on_abs)
  | ((with_reducible apply on_lenL); (· rfl)) | ((with_reducible apply on_lenT); (· rfl)) | ((with_reducible apply on_isD); (· rfl); (· decide))
  | ((with_reducible apply isSub); (· rfl); (· rfl)) | (with_reducible apply isB) | (with_reducible apply isI) | (with_reducible apply is2) | (with_reducible apply is3) | (with_reducible apply isI1) | (with_reducible apply isI2) | (with_reducible apply isT) | (with_reducible apply isL) | (with_reducible apply isScr) | ((with_reducible apply isDs); (· rfl); (· rfl))
  | ((with_reducible apply o_inT); (· rfl); (· rfl); (· decide +kernel); (· decide +kernel)) | ((with_reducible apply o_eqD); (· rfl); (· rfl); (· decide +kernel); (· decide +kernel))
  | ((with_reducible apply iteT'); · first | decide +kernel | rfl) | ((with_reducible apply iteF'); · first | decide +kernel | rfl)))
def dueD : RR → PyData
  | .made ds => .tuple [.str "made", .tuple ds]
  | .part i => .tuple [.str "part", .int i]
  | .step => .tuple [.str "step", .int 12]
def triedV : RR → AV
  | .made ds => .tup [.d (.tuple [.str "made"]), .scr ds]
  | .part i => .d (.tuple [.tuple [.str "part", .int i], .none])
  | .step => .d (.tuple [.tuple [.str "step", .int 12], .none])
def clsD : RR → PyData
  | .part _ => .tuple [.bool true, .bool true, .bool false, .bool false]
  | _ => .tuple [.bool true, .bool false, .bool true, .bool false]
def isMade : RR → Bool
  | .made _ => true
  | _ => false
def ApDue : ASp := fun xs cs k => ∃ s, xs = [.d (.str s)] ∧ cs = [] ∧ TxS 6000 s ∧ k (.d (dueD (readR s))) []
def ApTried : ASp := fun xs cs k => ∃ y r, xs = [y] ∧ cs = [] ∧ AV.lt 0 y = true ∧ ReadOf y r ∧ ((∀ ds, r = .made ds → Row ds) → k (triedV r) [])
def ApClasses : ASp := fun xs cs k => ∃ y r, xs = [y] ∧ cs = [] ∧ AV.lt 0 y = true ∧ ReadOf y r ∧ isMade r = false ∧ k (.d (clsD r)) []
def ApRight : ASp := fun xs cs k => ∃ y r, xs = [y, .d (dueD r)] ∧ cs = [] ∧ AV.lt 0 y = true ∧ ReadOf y r ∧ k (.d (.bool true)) []
def ApWholeT : ASp := fun xs cs k => ∃ a b : Int, xs = [.d (.int a), .d (.int b)] ∧ cs = [] ∧ k (.d (.bool (decide (a = b)))) []
section
variable {K : PySem.W.Frag} {C cN : Addr} {F F' H H' : Hp} {as as' : Own} {cs cs' cs1 : List Cell} {E : AEnv} {k : AV → List Cell → Prop} {x y : AV} {te ta tb : TE} {tas : TA} {X : XK} {n m : Nat} {W : WX} {ex : EX}
theorem ev_same {n : Nat} (h : Evs K C E cs tas fun xs cs1 => ∃ d, xs = [.d d, .d d] ∧ okS n d = true ∧ k (.d (.bool true)) cs1) : Ev K C E cs (tCall (spSame K n) [] X tas) k := fun F as H σ Q w e z => by
  refine h F as H σ _ w e fun xs cs1 vs F1 as1 H1 ⟨d, hx, hd, hk⟩ s1 w1 r1 => ?_
  show spSame K n (vs ++ []) H1 Q X
  subst hx
  cases r1 with | cons r1 r2 =>
  cases r2 with | cons r2 r3 =>
  cases r3
  cases r1 with | d r1 =>
  cases r2 with | d r2 =>
  exact ⟨_, _, d, rfl, w1.fro.dp r1, w1.fro.dp r2, hd, fun H' s => (Kt.later z s1).same w1 s hk (.d (.bl true))⟩
theorem ev_due (h : Evs K C E cs tas fun xs cs1 => ∃ s, xs = [.d (.str s)] ∧ TxS 6000 s ∧ k (.d (dueD (readR s))) cs1) : Ev K C E cs (tCall (spA K C ApDue) [] X tas) k :=
  ev_callF fun F as H σ Q w e z => h F as H σ Q w e fun xs cs1 v F' as' H' ⟨s, h1, h2, h4⟩ => z xs cs1 v F' as' H' ⟨by rw [h1]; rfl, s, h1, rfl, h2, by
    show k (.d _) (putC cs1 [] [])
    rw [putC_nil]; exact h4⟩
theorem triedV_lt {r : RR} : AV.lt 0 (triedV r) = true := by cases r <;> rfl
theorem ev_tried (h : Evs K C E cs tas fun xs cs1 => ∃ y r, xs = [y] ∧ AV.lt 0 y = true ∧ ReadOf y r ∧ ((∀ ds, r = .made ds → Row ds) → k (triedV r) cs1)) : Ev K C E cs (tCall (spA K C ApTried) [] X tas) k :=
  ev_callF fun F as H σ Q w e z => h F as H σ Q w e fun xs cs1 v F' as' H' ⟨y, r, h1, h2, h3, h4⟩ => z xs cs1 v F' as' H' ⟨by rw [h1]; show (AV.lt 0 y && true) = true; rw [h2]; rfl, y, r, h1, rfl, h2, h3, fun hr => by
    show k ((triedV r).ren _) (putC cs1 [] [])
    rw [putC_nil, AV.ren0 triedV_lt]; exact h4 hr⟩
theorem ev_classes (h : Evs K C E cs tas fun xs cs1 => ∃ y r, xs = [y] ∧ AV.lt 0 y = true ∧ ReadOf y r ∧ isMade r = false ∧ k (.d (clsD r)) cs1) : Ev K C E cs (tCall (spA K C ApClasses) [] X tas) k :=
  ev_callF fun F as H σ Q w e z => h F as H σ Q w e fun xs cs1 v F' as' H' ⟨y, r, h1, h2, h3, h5, h4⟩ => z xs cs1 v F' as' H' ⟨by rw [h1]; show (AV.lt 0 y && true) = true; rw [h2]; rfl, y, r, h1, rfl, h2, h3, h5, by
    show k (.d _) (putC cs1 [] [])
    rw [putC_nil]; exact h4⟩
theorem ev_right (h : Evs K C E cs tas fun xs cs1 => ∃ y r, xs = [y, .d (dueD r)] ∧ AV.lt 0 y = true ∧ ReadOf y r ∧ k (.d (.bool true)) cs1) : Ev K C E cs (tCall (spA K C ApRight) [] X tas) k :=
  ev_callF fun F as H σ Q w e z => h F as H σ Q w e fun xs cs1 v F' as' H' ⟨y, r, h1, h2, h3, h4⟩ => z xs cs1 v F' as' H' ⟨by rw [h1]; show (AV.lt 0 y && (true && true)) = true; rw [h2]; rfl, y, r, h1, rfl, h2, h3, by
    show k (.d _) (putC cs1 [] [])
    rw [putC_nil]; exact h4⟩
theorem ev_wholeT (h : Evs K C E cs tas fun xs cs1 => ∃ a b : Int, xs = [.d (.int a), .d (.int b)] ∧ k (.d (.bool (decide (a = b)))) cs1) : Ev K C E cs (tCall (spA K C ApWholeT) [] X tas) k :=
  ev_callF fun F as H σ Q w e z => h F as H σ Q w e fun xs cs1 v F' as' H' ⟨a, b, h1, h5⟩ => z xs cs1 v F' as' H' ⟨by rw [h1]; rfl, a, b, h1, rfl, by
    show k (.d (.bool _)) (putC cs1 [] [])
    rw [putC_nil]; exact h5⟩
end
section
variable {P : Program} {w : World} {K : PySem.W.Frag} {mg : Str → Option Value} {base : Heap}
theorem ok_lwhole (T : Tx K mg) (C : Addr) : FnOk P w K mg base CX0 1 T.whole.a T.whole.fd ["actual", "expected"] (spA K C ApWholeT) := by
  refine T.whole.F.ok sc_whole (fun vs H Q E h => spA_len (l := 2) (fun xs cs k ⟨_, _, h, _⟩ => by rw [h]; rfl) h) (fun cdv A outer s H vs Q E hr h => ?_)
  obtain ⟨F, as, cs, xs, k, wd, ar, ⟨a, b, rfl, rfl, hk⟩, q⟩ := h
  refine ⟨_, (pss_one (ps_ret (pe_and (pe_callB (call_isDK K) (by rfl) T.b_isinstance (by decide +kernel) (pa_cons (pv 0) (pa_cons (pe_bltn (v := .ty "int") (by rfl) T.b_int (by decide +kernel) rfl) pa_nil))) (pe_and (pe_not (pe_callB (call_isDK K) (by rfl) T.b_isinstance (by decide +kernel) (pa_cons (pv 0) (pa_cons (pe_bltn (v := .ty "bool") (by rfl) T.b_bool (by decide +kernel) rfl) pa_nil)))) (pe_one (pe_cmpR (op_eqAK K (hu65 hr)) (pv 0) (pv 1) (nomark _))))))), ?_⟩
  refine body_go [some (.d (.int a)), some (.d (.int b))] (n := 0) rfl rfl wd ar ?_ q
  walk_at "a"
  refine o_eqA1 (r := rEq) (o_eq rfl rfl rfl ?_)
  have e : decide (V.int a = V.int b) = decide (a = b) := by simp
  rw [e]
  exact Rt.here hk (Nat.zero_le _) rfl rfl
theorem ok_due (T : Tx K mg) (C : Addr) : FnOk P w K mg base CX0 2 T.due.a T.due.fd ["page"] (spA K C ApDue) := by
  have G_menu := ok_menu (P := P) (w := w) (base := base) T C
  refine T.due.F.ok sc_due (fun vs H Q E h => spA_len (l := 1) (fun xs cs k ⟨_, h, _⟩ => by rw [h]; rfl) h) (fun cdv A outer s H vs Q E hr h => ?_)
  obtain ⟨F, as, cs, xs, k, wd, ar, ⟨s, rfl, rfl, hs, hk⟩, q⟩ := h
  refine ⟨_, (pss_cons (ps_if (pt_cmpR op_eq (pv 0) pe_str (nomark _))
  (pss_one (ps_ret (pe_tup (pa_cons pe_str (pa_cons (pe_tup pa_nil) pa_nil)))))
  pss_nil)
  (pss_cons (ps_par (i := 1) (j := 2) rfl sc_due.nd rfl rfl (by decide) rfl rfl (pa_cons (pe_split (pv 0) pe_str) (pa_cons (pe_lst pa_nil) pa_nil)) rfl)
  (pss_cons (ps_for PassesOwn.never rfl (pi_range1 (by rfl) T.b_range (pa_cons (pe_callB (call_lenK K) (by rfl) T.b_len (by decide +kernel) (pa_cons (pv 1) pa_nil)) pa_nil)) (pg_name (i := 3) sc_due.nd rfl (Or.inl rfl))
  (pss_cons (ps_set (i := 4) sc_due.nd rfl (Or.inl rfl) (pe_callTy (call_tupK K) (by rfl) T.b_tuple (by decide +kernel) (pa_cons (pe_split (pe_ix (ix_listK K) (pv 1) (pv 3) (fun _ _ => rfl)) pe_str) pa_nil)))
  (pss_cons (ps_if (pt_cmpR (op_notInDK K (hu65 hr)) (pv 4) (pe_call0 G_menu (hr.mono (by first | decide | omega)) rfl T.menu.g T.menu.F.kp T.menu.b .nil pass0) (by rfl))
  (pss_one (ps_ret (pe_tup (pa_cons pe_str (pa_cons (pv 3) pa_nil)))))
  pss_nil)
  (pss_one (ps_expr (pe_bmK2 K PySem.F.plainAttrs_list PySem.F.slot_list_append PySem.F.type_list_append mt_append (pv 2) (pa_cons (pv 4) pa_nil)))))))
  (pss_one (ps_ret (pe_ifExp (pt_cmpR op_lt (pe_callB (call_lenK K) (by rfl) T.b_len (by decide +kernel) (pa_cons (pv 2) pa_nil)) pe_int (nomark _)) (pe_tup (pa_cons pe_str (pa_cons (pe_callTy (call_tupK K) (by rfl) T.b_tuple (by decide +kernel) (pa_cons (pv 2) pa_nil)) pa_nil))) (pe_tup (pa_cons pe_str (pa_cons pe_int pa_nil))))))))), ?_⟩
  refine body_go [some (.d (.str s)), none, none, none, none] (n := 0) rfl rfl wd ar ?_ q
  walk_at "a"
  by_cases c0 : s = "nothing"
  · rw [show decide (V.str s = V.str "nothing") = true from decide_eq_true (by rw [c0])]
    walk_at "a"
    exact Rt.cut 0 (by rw [c0] at hk; exact hk) (Nat.le_refl 0) rfl rfl
  rw [show decide (V.str s = V.str "nothing") = false from decide_eq_false fun z => c0 (V.str.inj z)]
  walk_at "a"
  have hps := PS.split hs
  have hlen : (Txt.split s ", ").length ≤ 3001 := by have := hps.sum; omega
  have hlm : ((Txt.split s ", ").map PyData.str).length = (Txt.split s ", ").length := List.length_map ..
  refine ev_split ?_
  walk_at "a"
  refine ⟨s, rfl, ?_⟩
  walk_at "a"
  refine ⟨_, rfl, by decide +kernel, by have := hs.len; omega, ?_⟩
  walk_at "a"
  refine ev_lstD ?_
  walk_at "a"
  show Ex _ _ _ _ _ _ _
  refine ex_for 2 (Nat.zero_le _) (ei_rng1 ?_)
  walk_at "a"
  rw [hlm]
  refine ⟨by omega, by omega, Nat.le_refl 2, fun i E' cs' => ∃ x3 x4, E' = [some (.d (.str s)), some (.cel 0), some (.cel 1), x3, x4] ∧ cs' = [.l ((Txt.split s ", ").map PyData.str), .l (((Txt.split s ", ").map pD).take i)] ∧ ∀ t, t < i → ((Txt.split s ", ").map fun p => isStepD (pD p))[t]? = some true, ⟨_, _, rfl, rfl, fun t ht => absurd ht (Nat.not_lt_zero t)⟩, fun _ _ _ _ => trivial, ?_, ?_⟩
  · rintro i z E' cs' hz ⟨x3, x4, rfl, rfl, hb⟩
    obtain ⟨hi, rfl⟩ := rngA_get hz
    have hi : i < (Txt.split s ", ").length := by omega
    have hp : (Txt.split s ", ")[i]? = some (Txt.split s ", ")[i] := List.getElem?_eq_getElem hi
    generalize (Txt.split s ", ")[i] = p at hp
    have hpm := List.mem_of_getElem? hp
    have hpt := hps.one hpm
    have hbi : ((Txt.split s ", ").map fun p => isStepD (pD p))[i]? = some (isStepD (pD p)) := by rw [List.getElem?_map, hp]; rfl
    refine eg_name ?_
    walk_at "a"
    refine ev_split ?_
    walk_at "a"
    rw [show (0 : Int) + (i : Int) = (i : Int) by omega]
    refine o_ixL (ds := (Txt.split s ", ").map PyData.str) (d := .str p) (by rfl) (atI_nat (by rw [List.getElem?_map, hp]; rfl)) ?_
    refine ⟨p, rfl, ?_⟩
    walk_at "a"
    refine ⟨_, rfl, by decide +kernel, Nat.le_trans hpt.len (by decide), ?_⟩
    walk_at "a"
    refine on_tupL (by rfl) ?_
    walk_at "a"
    refine ev_menu ?_
    walk_at "a"
    refine o_notInL (d := pD p) (ds := MENUD) rfl (by rfl) ((pD_flat hpt).shaped (by decide)) (by decide +kernel) ?_
    rw [pD_menu]
    cases hc : isStepD (pD p) with
    | false =>
      rw [hc] at hbi
      walk_at "a"
      have := firstF_at (j := 0) hb hbi
      rw [Nat.zero_add] at this
      rw [readR_part c0 this] at hk
      exact Rt.cut 0 hk (Nat.le_refl 0) rfl rfl
    | true =>
      rw [hc] at hbi
      walk_at "a"
      refine ⟨ty_l (by rfl), ?_⟩
      walk_at "a"
      refine om_append (i := 1) (ds := ((Txt.split s ", ").map pD).take i) (by rfl) (by rw [List.length_take, List.length_map]; omega) ?_
      refine Cm.mask [true, true, true, false, false] 2 rfl (Nat.le_refl 2) rfl rfl ⟨_, _, rfl, ?_, fun t ht => ?_⟩
      · have : ((Txt.split s ", ").map pD).take (i + 1) = ((Txt.split s ", ").map pD).take i ++ [pD p] := take_snoc (by rw [List.getElem?_map, hp]; rfl)
        rw [this]; rfl
      · rcases Nat.lt_succ_iff_lt_or_eq.mp ht with ht | rfl
        · exact hb t ht
        · exact hbi
  · rintro E' cs' ⟨x3, x4, rfl, rfl, hb⟩
    rw [rngA_len] at hb ⊢
    rw [show (((Txt.split s ", ").length : Nat) : Int).toNat = (Txt.split s ", ").length from Int.toNat_natCast _] at hb ⊢
    have hnone := firstF_none (j := 0) (bs := (Txt.split s ", ").map fun p => isStepD (pD p)) (fun t ht => hb t (by rw [List.length_map] at ht; exact ht))
    have hrr := readR_rest c0 hnone
    rw [show ((Txt.split s ", ").map pD).take (Txt.split s ", ").length = (Txt.split s ", ").map pD from List.take_of_length_le (by rw [List.length_map]; exact Nat.le_refl _)]
    walk_at "a"
    rw [List.length_map]
    by_cases c12 : (Txt.split s ", ").length ≤ 12
    · rw [if_pos c12] at hrr
      rw [hrr] at hk
      rw [show decide (((Txt.split s ", ").length : Int) < 13) = true from decide_eq_true (by omega)]
      walk_at "a"
      refine on_tupL (by rfl) ?_
      walk_at "a"
      exact Rt.cut 0 hk (Nat.le_refl 0) rfl rfl
    · rw [if_neg c12] at hrr
      rw [hrr] at hk
      rw [show decide (((Txt.split s ", ").length : Int) < 13) = false from decide_eq_false (by omega)]
      walk_at "a"
      exact Rt.cut 0 hk (Nat.le_refl 0) rfl rfl
theorem ok_tried (T : Tx K mg) : FnOk P w K mg base CX0 8 T.tried.a T.tried.fd ["page"] (spA K T.c_Script ApTried) := by
  have GX_read_script := okx_read_script (P := P) (w := w) (base := base) T
  refine T.tried.F.ok sc_tried (fun vs H Q E h => spA_len (l := 1) (fun xs cs k ⟨_, _, h, _⟩ => by rw [h]; rfl) h) (fun cdv A outer s H vs Q E hr h => ?_)
  obtain ⟨F, as, cs, xs, k, wd, ar, ⟨y, r, rfl, rfl, hy, hi, hk⟩, q⟩ := h
  refine ⟨_, (pss_cons (ps_asg (pe_tup (pa_cons (pe_tup (pa_cons pe_str pa_nil)) (pa_cons pe_non pa_nil))) (pg_tupK K rfl (pgs_cons (pg_name (i := 1) sc_tried.nd rfl (Or.inl rfl)) (pgs_cons (pg_name (i := 2) sc_tried.nd rfl (Or.inl rfl)) pgs_nil))))
  (pss_cons (ps_try_manyAs (i := 3) rfl rfl sc_tried.nd rfl rfl takes0 (fun W pn xe tk _ => (pss_one (ps_set (i := 2) sc_tried.nd rfl (Or.inl rfl) (pe_callN0S GX_read_script (hr.mono (by first | decide | omega)) rfl T.read_script.g T.read_script.F.kp T.kb_read_script_0 (fun σ => passAt tk σ) (pk_cons (pv 0) pk_nil))))) (.cons ⟨rfl, by decide, .inl T.g_NoText⟩ (fun a oe cls d pn hz hf => (pss_one (ps_set (i := 1) sc_tried.nd rfl (Or.inl rfl) (pe_tup (pa_cons pe_str (pa_cons (pe_xf T.xf_NoText T.nf_NoText hz hf (pv 3)) pa_nil)))))) (.cons ⟨rfl, by decide, .inl T.g_NoStep⟩ (fun a oe cls d pn hz hf => (pss_one (ps_set (i := 1) sc_tried.nd rfl (Or.inl rfl) (pe_tup (pa_cons pe_str (pa_cons (pe_xf T.xf_NoStep T.nf_NoStep hz hf (pv 3)) pa_nil)))))) .nil)))
  (pss_one (ps_ret (pe_tup (pa_cons (pv 1) (pa_cons (pv 2) pa_nil))))))), ?_⟩
  refine body_go [some y, none, none, none] (n := 0) rfl rfl wd ar ?_ q
  walk_at "a"
  refine eg_tupD rfl (egs_cons (egs_cons (egs_nil ?_)))
  walk_at "a"
  refine ex_tryL (i := 3) (l := [(Value.ref T.c_NoText, fun a cls d => tAsg (tTup (tCons (tC (V.str "part")) (tCons (tXf a cls d T.c_NoText "part" (tVar 3)) tNil))) (gName 1)), (Value.ref T.c_NoStep, fun a cls d => tAsg (tTup (tCons (tC (V.str "step")) (tCons (tXf a cls d T.c_NoStep "index" (tVar 3)) tNil))) (gName 1))])
    (tb := fun W => tAsg (tCallN0S 1 (spAX K T.c_Script (ApReadX T.c_NoText T.c_NoStep)) (fun us ws => us ++ ws) (WE W) (tCons (tVar 0) tNil)) (gName 2)) fun W => ?_
  refine ex_toX ?_
  refine evx_callN0S (fun _ => rfl) ?_
  walk_at "a"
  refine ⟨rfl, calls_free (by show (AV.lt 0 y && true) = true; rw [hy]; rfl) ⟨y, r, rfl, rfl, hi, fun ds e hr2 => ?_, fun i e => ?_, fun e => ?_⟩⟩
  · subst e
    show Eg K T.c_Script _ _ (.scr ds) _ _ _
    refine eg_name ?_
    show Ex K T.c_Script _ _ _ (tRet (tTup (tCons (tVar 1) (tCons (tVar 2) tNil)))) _
    refine ex_ret ?_
    refine ev_tup ?_
    walk_at "a"
    refine ⟨Nat.le_of_ble_eq_true rfl, ?_⟩
    exact Rt.here (hk fun ds' e => by cases e; exact hr2) (Nat.zero_le _) rfl rfl
  · subst e
    refine ⟨true, T.em_NoText_NoText, fun _ a dd => ?_, fun h => (by cases h)⟩
    walk_at "a"
    refine ev_xf ?_
    walk_at "a"
    refine ⟨_, rfl, ?_⟩
    walk_at "a"
    show Ex K T.c_Script _ _ _ (tRet (tTup (tCons (tVar 1) (tCons (tVar 2) tNil)))) _
    walk_at "a"
    exact Rt.here (hk fun ds' e => by cases e) (Nat.zero_le _) rfl rfl
  · subst e
    refine ⟨false, T.em_NoStep_NoText, fun h => (by cases h), fun _ => ⟨true, T.em_NoStep_NoStep, fun _ a dd => ?_, fun h => (by cases h)⟩⟩
    walk_at "a"
    refine ev_xf ?_
    walk_at "a"
    refine ⟨_, rfl, ?_⟩
    walk_at "a"
    show Ex K T.c_Script _ _ _ (tRet (tTup (tCons (tVar 1) (tCons (tVar 2) tNil)))) _
    walk_at "a"
    exact Rt.here (hk fun ds' e => by cases e) (Nat.zero_le _) rfl rfl
theorem ok_classes (T : Tx K mg) : FnOk P w K mg base CX0 8 T.classes.a T.classes.fd ["page"] (spA K T.c_Script ApClasses) := by
  have GX_read_script := okx_read_script (P := P) (w := w) (base := base) T
  refine T.classes.F.ok sc_classes (fun vs H Q E h => spA_len (l := 1) (fun xs cs k ⟨_, _, h, _⟩ => by rw [h]; rfl) h) (fun cdv A outer s H vs Q E hr h => ?_)
  obtain ⟨F, as, cs, xs, k, wd, ar, ⟨y, r, rfl, rfl, hy, hi, hm, hk⟩, q⟩ := h
  refine ⟨_, (pss_cons (ps_set (i := 1) sc_classes.nd rfl (Or.inl rfl) (pe_tup pa_nil))
  (pss_cons (ps_try_as (i := 2) rfl rfl sc_classes.nd rfl rfl ⟨rfl, by decide, .inl T.g_TurnError⟩ takes0 (fun W pn xe tk _ => (pss_one (ps_expr (pe_callS GX_read_script (hr.mono (by first | decide | omega)) rfl T.read_script.g T.read_script.F.kp T.read_script.b (fun σ => passAt tk σ) (pa_cons (pv 0) pa_nil))))) (fun a oe cls d pn hz hf => (pss_one (ps_set (i := 1) sc_classes.nd rfl (Or.inl rfl) (pe_tup (pa_cons (pe_callB (call_isX hz hf) (by rfl) T.b_isinstance (by decide +kernel) (pa_cons (pv 2) (pa_cons (pe_bltn (v := .ty "ValueError") (by rfl) T.b_ValueError (by decide +kernel) rfl) pa_nil))) (pa_cons (pe_callB (call_isX hz hf) (by rfl) T.b_isinstance (by decide +kernel) (pa_cons (pv 2) (pa_cons (pe_glob (v := .ref T.c_NoText) rfl T.g_NoText rfl) pa_nil))) (pa_cons (pe_callB (call_isX hz hf) (by rfl) T.b_isinstance (by decide +kernel) (pa_cons (pv 2) (pa_cons (pe_glob (v := .ref T.c_NoStep) rfl T.g_NoStep rfl) pa_nil))) (pa_cons (pe_callB (call_isX hz hf) (by rfl) T.b_isinstance (by decide +kernel) (pa_cons (pv 2) (pa_cons (pe_glob (v := .ref T.c_NoDeed) rfl T.g_NoDeed rfl) pa_nil))) pa_nil)))))))))
  (pss_one (ps_ret (pv 1))))), ?_⟩
  refine body_go [some y, none, none] (n := 0) rfl rfl wd ar ?_ q
  walk_at "a"
  refine ex_tryAs (tb := fun W => tDrop (tCallS (spAX K T.c_Script (ApReadX T.c_NoText T.c_NoStep)) (WE W) (tCons (tVar 0) tNil))) fun W => ?_
  refine ex_dropX ?_
  refine evx_callS ?_
  walk_at "a"
  refine calls_free (by show (AV.lt 0 y && true) = true; rw [hy]; rfl) ⟨y, r, rfl, rfl, hi, fun ds e hr2 => ?_, fun i e => ?_, fun e => ?_⟩
  · subst e; cases hm
  · subst e
    refine ⟨T.em_NoText_TurnError, fun a dd => ?_⟩
    walk_at "a"
    refine on_isXT T.xc_NoText T.kv_NoText ?_
    walk_at "a"
    refine ev_raw ?_
    walk_at "a"
    refine on_isX T.xc_NoText T.ki_NoText_NoText ?_
    walk_at "a"
    refine ev_raw ?_
    walk_at "a"
    refine on_isX T.xc_NoText T.ki_NoText_NoStep ?_
    walk_at "a"
    refine ev_raw ?_
    walk_at "a"
    refine on_isX T.xc_NoText T.ki_NoText_NoDeed ?_
    walk_at "a"
    show Ex K T.c_Script 0 _ _ (tRet (tVar 1)) _
    walk_at "a"
    exact Rt.here hk (Nat.zero_le _) rfl rfl
  · subst e
    refine ⟨T.em_NoStep_TurnError, fun a dd => ?_⟩
    walk_at "a"
    refine on_isXT T.xc_NoStep T.kv_NoStep ?_
    walk_at "a"
    refine ev_raw ?_
    walk_at "a"
    refine on_isX T.xc_NoStep T.ki_NoStep_NoText ?_
    walk_at "a"
    refine ev_raw ?_
    walk_at "a"
    refine on_isX T.xc_NoStep T.ki_NoStep_NoStep ?_
    walk_at "a"
    refine ev_raw ?_
    walk_at "a"
    refine on_isX T.xc_NoStep T.ki_NoStep_NoDeed ?_
    walk_at "a"
    show Ex K T.c_Script 0 _ _ (tRet (tVar 1)) _
    walk_at "a"
    exact Rt.here hk (Nat.zero_le _) rfl rfl
theorem ok_right (T : Tx K mg) : FnOk P w K mg base CX0 9 T.right.a T.right.fd ["page", "due"] (spA K T.c_Script ApRight) := by
  have G_tried := ok_tried (P := P) (w := w) (base := base) T
  have G_classes := ok_classes (P := P) (w := w) (base := base) T
  have G_whole := ok_lwhole (P := P) (w := w) (base := base) T T.c_Script
  have G_same := ok_same (P := P) (w := w) (base := base) T 3
  have G_Script_steps := ok_Script_steps (P := P) (w := w) (base := base) T
  refine T.right.F.ok sc_right (fun vs H Q E h => spA_len (l := 2) (fun xs cs k ⟨_, _, h, _⟩ => by rw [h]; rfl) h) (fun cdv A outer s H vs Q E hr h => ?_)
  obtain ⟨F, as, cs, xs, k, wd, ar, ⟨y, r, rfl, rfl, hy, hi, hk⟩, q⟩ := h
  refine ⟨_, (pss_cons (ps_asg (pe_call G_tried (hr.mono (by first | decide | omega)) rfl T.tried.g T.tried.F.kp T.tried.b .nil pass0 (pa_cons (pv 0) pa_nil)) (pg_tupK K rfl (pgs_cons (pg_name (i := 2) sc_right.nd rfl (Or.inl rfl)) (pgs_cons (pg_name (i := 3) sc_right.nd rfl (Or.inl rfl)) pgs_nil))))
  (pss_cons (ps_if (pt_cmpR (op_neAK K (hu65 hr)) (pe_ix (ix_tupK K) (pv 2) pe_int (fun _ _ => rfl)) (pe_ix (ix_tupK K) (pv 1) pe_int (fun _ _ => rfl)) (nomark _))
  (pss_one (ps_ret pe_bl))
  pss_nil)
  (pss_cons (ps_if (pt_cmpR op_eq (pe_ix (ix_tupK K) (pv 1) pe_int (fun _ _ => rfl)) pe_str (nomark _))
  (pss_one (ps_ret (pe_and (pe_callB (call_isiK1 K) (by rfl) T.b_isinstance (by decide +kernel) (pa_cons (pv 3) (pa_cons (pe_glob (v := .ref T.c_Script) rfl T.g_Script rfl) pa_nil))) (pe_one (pe_call G_same (hr.mono (by first | decide | omega)) rfl T.same.g T.same.F.kp T.same.b .nil pass0 (pa_cons (pe_meth0 (pv 3) T.cl_Script T.Script_steps.m G_Script_steps (hr.mono (by first | decide | omega)) T.Script_steps.b .nil pass0) (pa_cons (pe_ix (ix_tupK K) (pv 1) pe_int (fun _ _ => rfl)) pa_nil)))))))
  pss_nil)
  (pss_cons (ps_if (pt_cmpR (op_neDK K (hu65 hr)) (pe_call G_classes (hr.mono (by first | decide | omega)) rfl T.classes.g T.classes.F.kp T.classes.b .nil pass0 (pa_cons (pv 0) pa_nil)) (pe_tup (pa_cons pe_bl (pa_cons (pe_cmpR op_eq (pe_ix (ix_tupK K) (pv 1) pe_int (fun _ _ => rfl)) pe_str (nomark _)) (pa_cons (pe_cmpR op_eq (pe_ix (ix_tupK K) (pv 1) pe_int (fun _ _ => rfl)) pe_str (nomark _)) (pa_cons pe_bl pa_nil))))) (nomark _))
  (pss_one (ps_ret pe_bl))
  pss_nil)
  (pss_one (ps_ret (pe_call G_whole (hr.mono (by first | decide | omega)) rfl T.whole.g T.whole.F.kp T.whole.b .nil pass0 (pa_cons (pe_ix (ix_tupK K) (pv 2) pe_int (fun _ _ => rfl)) (pa_cons (pe_ix (ix_tupK K) (pv 1) pe_int (fun _ _ => rfl)) pa_nil))))))))), ?_⟩
  refine body_go [some y, some (.d (dueD r)), none, none] (n := 0) rfl rfl wd ar ?_ q
  walk_at "a"
  refine ev_tried ?_
  walk_at "a"
  refine ⟨y, r, rfl, hy, hi, fun hrow => ?_⟩
  cases r with
  | made ds =>
    have hr := hrow ds rfl
    refine eg_tup rfl (egs_cons (egs_cons (egs_nil ?_)))
    walk_at "a"
    refine o_neA1 (o_ne rfl rfl rfl ?_)
    rw [show (!decide (V.str "made" = V.str "made")) = false by decide +kernel]
    walk_at "a"
    refine ev_raw ?_
    walk_at "a"
    refine on_isScr T.ic_Script ?_
    walk_at "a"
    refine ev_same ?_
    walk_at "a"
    refine ev_steps (fun a dx v H Q e q => ⟨a, dx, v, rfl, e, q⟩) (by decide) ?_
    walk_at "a"
    refine ⟨.tuple ds, rfl, okS_row hr.st (by have := hr.len; omega), ?_⟩
    walk_at "a"
    exact Rt.cut 0 hk (Nat.le_refl 0) rfl rfl
  | part i =>
    refine eg_tupD rfl (egs_cons (egs_cons (egs_nil ?_)))
    walk_at "a"
    refine o_neA1 (o_ne rfl rfl rfl ?_)
    rw [show (!decide (V.str "part" = V.str "part")) = false by decide +kernel]
    walk_at "a"
    refine ev_classes ?_
    walk_at "a"
    refine ⟨y, _, rfl, hy, hi, rfl, ?_⟩
    walk_at "a"
    refine o_neD (a := clsD (RR.part 0)) (b := clsD (RR.part 0)) rfl rfl (by decide +kernel) (by decide +kernel) ?_
    rw [show (!PyData.eqv (clsD (RR.part 0)) (clsD (RR.part 0))) = false by decide +kernel]
    walk_at "a"
    refine ev_wholeT ?_
    walk_at "a"
    refine ⟨_, _, rfl, ?_⟩
    rw [decide_eq_true rfl]
    exact Rt.cut 0 hk (Nat.le_refl 0) rfl rfl
  | step =>
    refine eg_tupD rfl (egs_cons (egs_cons (egs_nil ?_)))
    walk_at "a"
    refine o_neA1 (o_ne rfl rfl rfl ?_)
    rw [show (!decide (V.str "step" = V.str "step")) = false by decide +kernel]
    walk_at "a"
    refine ev_classes ?_
    walk_at "a"
    refine ⟨y, _, rfl, hy, hi, rfl, ?_⟩
    walk_at "a"
    refine o_neD (a := clsD (RR.step)) (b := clsD (RR.step)) rfl rfl (by decide +kernel) (by decide +kernel) ?_
    rw [show (!PyData.eqv (clsD (RR.step)) (clsD (RR.step))) = false by decide +kernel]
    walk_at "a"
    refine ev_wholeT ?_
    walk_at "a"
    refine ⟨_, _, rfl, ?_⟩
    rw [decide_eq_true rfl]
    exact Rt.cut 0 hk (Nat.le_refl 0) rfl rfl
def things (s : Str) : List AV := [.d .none, .d (.int 0), .d (.bool true), .d (.list []), .d (.list [.str s]), .d (.tuple [.str s]), .dct]
theorem things_no {s : Str} {y : AV} (h : y ∈ things s) : AV.lt 0 y = true ∧ ReadOf y (.part 0) := by
  simp only [things, List.mem_cons, List.not_mem_nil, or_false] at h
  rcases h with rfl | rfl | rfl | rfl | rfl | rfl | rfl
  · exact ⟨rfl, .no (t := "NoneType") rfl (by decide) rfl⟩
  · exact ⟨rfl, .no (t := "int") rfl (by decide) rfl⟩
  · exact ⟨rfl, .no (t := "bool") rfl (by decide) rfl⟩
  · exact ⟨rfl, .no (t := "list") rfl (by decide) rfl⟩
  · exact ⟨rfl, .no (t := "list") rfl (by decide) rfl⟩
  · exact ⟨rfl, .no (t := "tuple") rfl (by decide) rfl⟩
  · exact ⟨rfl, .no (t := "dict") rfl (by decide) rfl⟩
theorem ok_law0 (T : Tx K mg) : FnOk P w K mg base CX0 12 T.law.a T.law.fd ["script"] (spA K T.c_Script ApLaw) := by
  have G_well := ok_well (P := P) (w := w) (base := base) T T.c_Script
  have G_draw := ok_draw (P := P) (w := w) (base := base) T T.c_Script
  have G_row := ok_row (P := P) (w := w) (base := base) T T.c_Script
  have G_script_text := ok_script_text (P := P) (w := w) (base := base) T T.c_Script
  have G_spoilt := ok_spoilt (P := P) (w := w) (base := base) T T.c_Script
  have G_due := ok_due (P := P) (w := w) (base := base) T T.c_Script
  have G_right := ok_right (P := P) (w := w) (base := base) T
  refine T.law.F.ok sc_law (fun vs H Q E h => spA_len (l := 1) (fun xs cs k ⟨_, h, _⟩ => by rw [h]; rfl) h) (fun cdv A outer s H vs Q E hr h => ?_)
  obtain ⟨F, as, cs, xs, k, wd, ar, ⟨ns, rfl, rfl, hl, hk⟩, q⟩ := h
  refine ⟨_, (pss_cons (ps_for PassesOwn.never rfl (pi_range1 (by rfl) T.b_range (pa_cons (pe_callB (call_max2 rfl) (by rfl) T.b_max (by decide +kernel) (pa_cons pe_int (pa_cons (pe_callB (call_lenK K) (by rfl) T.b_len (by decide +kernel) (pa_cons (pv 0) pa_nil)) pa_nil))) pa_nil)) (pg_name (i := 1) sc_law.nd rfl (Or.inl rfl))
  (pss_cons (ps_set (i := 2) sc_law.nd rfl (Or.inl rfl) (pe_call G_well (hr.mono (by first | decide | omega)) rfl T.well.g T.well.F.kp T.well.b .nil pass0 (pa_cons (pv 0) (pa_cons (pv 1) pa_nil))))
  (pss_cons (ps_par (i := 3) (j := 4) rfl sc_law.nd rfl rfl (by decide) rfl rfl (pa_cons (pe_call G_draw (hr.mono (by first | decide | omega)) rfl T.draw.g T.draw.F.kp T.draw.b .nil pass0 (pa_cons (pv 2) (pa_cons pe_int pa_nil))) (pa_cons (pe_call G_draw (hr.mono (by first | decide | omega)) rfl T.draw.g T.draw.F.kp T.draw.b .nil pass0 (pa_cons (pv 2) (pa_cons pe_int pa_nil))) pa_nil)) rfl)
  (pss_cons (ps_set (i := 5) sc_law.nd rfl (Or.inl rfl) (pe_call G_script_text (hr.mono (by first | decide | omega)) rfl T.script_text.g T.script_text.F.kp T.script_text.b .nil pass0 (pa_cons (pe_call G_row (hr.mono (by first | decide | omega)) rfl T.row.g T.row.F.kp T.row.b .nil pass0 (pa_cons (pv 2) (pa_cons pe_int pa_nil))) pa_nil)))
  (C8.pss_cut (ps_if (pt_cmpR op_lt (pv 3) pe_int (nomark _))
  (pss_cons (ps_set (i := 6) sc_law.nd rfl (Or.inl rfl) (pe_ix (ix_listK K) (pe_lst (pa_cons pe_non (pa_cons pe_int (pa_cons pe_bl (pa_cons (pe_lst pa_nil) (pa_cons (pe_lst (pa_cons (pv 5) pa_nil)) (pa_cons (pe_tup (pa_cons (pv 5) pa_nil)) (pa_cons pe_dnewK pa_nil)))))))) (pv 3) (fun _ _ => rfl)))
  (pss_one (ps_if (pt_not (pt_val (pe_call G_right (hr.mono (by first | decide | omega)) rfl T.right.g T.right.F.kp T.right.b .nil pass0 (pa_cons (pv 6) (pa_cons (pe_tup (pa_cons pe_str (pa_cons pe_int pa_nil))) pa_nil)))))
  (pss_one (ps_ret pe_bl))
  pss_nil)))
  pss_nil)
  (pss_cons (ps_for PassesOwn.never rfl (pi_range1 (by rfl) T.b_range (pa_cons (pv 4) pa_nil)) (pg_name (i := 7) sc_law.nd rfl (Or.inl rfl))
  (pss_one (ps_set (i := 5) sc_law.nd rfl (Or.inl rfl) (pe_slice C8.sl_txt (pe_call G_spoilt (hr.mono (by first | decide | omega)) rfl T.spoilt.g T.spoilt.F.kp T.spoilt.b .nil pass0 (pa_cons (pv 2) (pa_cons (pv 5) pa_nil))) po_no (po_some pe_int)))))
  (pss_one (ps_if (pt_not (pt_val (pe_call G_right (hr.mono (by first | decide | omega)) rfl T.right.g T.right.F.kp T.right.b .nil pass0 (pa_cons (pv 5) (pa_cons (pe_call G_due (hr.mono (by first | decide | omega)) rfl T.due.g T.due.F.kp T.due.b .nil pass0 (pa_cons (pv 5) pa_nil)) pa_nil)))))
  (pss_one (ps_ret pe_bl))
  pss_nil))))))))
  (pss_one (ps_ret pe_bl))), ?_⟩
  refine body_go [some (.d (.list (ns.map PyData.int))), none, none, none, none, none, none, none] (n := 0) rfl rfl wd ar ?_ q
  walk_at "a"
  refine ex_for 0 (Nat.le_refl 0) (ei_rng1 ?_)
  walk_at "a"
  rw [List.length_map]
  refine ⟨by split <;> omega, by split <;> omega, Nat.le_refl 0, fun i E' cs' => cs' = [] ∧ ∃ x1 x2 x3 x4 x5 x6 x7, E' = [some (.d (.list (ns.map PyData.int))), x1, x2, x3, x4, x5, x6, x7], ⟨rfl, _, _, _, _, _, _, _, rfl⟩, fun _ _ _ _ => trivial, ?_, ?_⟩
  · rintro i y E' cs' hy ⟨rfl, x1, x2, x3, x4, x5, x6, x7, rfl⟩
    obtain ⟨hi, rfl⟩ := rngA_get hy
    have hi63 : (0 : Int) + (i : Int) ≤ 1000 := by revert hi; split <;> omega
    walk_at "a"
    refine ev_well ?_
    walk_at "a"
    refine ⟨ns, _, rfl, hl, by omega, hi63, fun ws hp => ?_⟩
    walk_at "a"
    refine ev_draw ?_
    walk_at "a"
    refine ⟨0, _, ws, 0, rfl, rfl, hp, by omega, by decide, by decide, fun way ws1 a1 b1 p1 => ?_⟩
    walk_at "a"
    refine ev_draw ?_
    walk_at "a"
    refine ⟨0, _, ws1, 1, rfl, rfl, p1.mono (by omega), by omega, by decide, by decide, fun spoils ws2 a2 b2 p2 => ?_⟩
    walk_at "a"
    refine ev_text ?_
    walk_at "a"
    refine ev_row ?_
    walk_at "a"
    refine ⟨0, 12, ws2, 2, rfl, rfl, p2.mono (by omega), by omega, by decide, by decide, fun ds ws3 hds hdl p3 => ?_⟩
    walk_at "a"
    refine ⟨ds, rfl, hds, by omega, ?_⟩
    have ht0 := rowText_tx hds (by omega)
    generalize rowText ds = pg at ht0
    show Ex _ _ _ _ _ _ _
    refine ex_midC (fun E' cs' => ∃ x3 x6 x7, E' = [some (.d (.list (ns.map PyData.int))), some (.d (.int (0 + i))), some (.cel 0), x3, some (.d (.int spoils)), some (.d (.str pg)), x6, x7] ∧ cs' = [.l ws3]) ?_ ?_
    · walk_at "a"
      refine iteB (fun c => ?_) (fun c => ?_)
      · have c := of_decide_eq_true c
        walk_at "a"
        refine ev_lst ?_
        walk_at "a"
        refine ev_lstF ?_
        walk_at "a"
        refine ev_lstF ?_
        walk_at "a"
        refine ev_dct ?_
        walk_at "a"
        refine ⟨Nat.le_of_ble_eq_true rfl, ?_⟩
        walk_at "a"
        obtain ⟨j4, rfl⟩ : ∃ j : Nat, way = (j : Int) := ⟨way.toNat, by omega⟩
        have hj4 : j4 < (things pg).length := by show j4 < 7; omega
        refine o_ixA (ys := things pg) (y := (things pg)[j4]) (by rfl) (atI_nat (List.getElem?_eq_getElem hj4)) ?_
        obtain ⟨hy1, hy2⟩ := things_no (List.getElem_mem hj4)
        generalize (things pg)[j4] = ty at hy1 hy2
        walk_at "a"
        refine ev_right ?_
        walk_at "a"
        refine ⟨_, .part 0, rfl, hy1, hy2, ?_⟩
        walk_at "a"
        exact Cm.mask [true, true, true, false, true, true, false, false] 1 rfl (Nat.zero_le _) rfl rfl ⟨_, _, _, rfl, rfl⟩
      · walk_at "a"
        exact Cm.here ⟨_, _, _, rfl, rfl⟩
    rintro E' cs' ⟨x3, x6, x7, rfl, rfl⟩
    walk_at "a"
    refine ex_for 1 (Nat.zero_le _) (ei_rng1 ?_)
    walk_at "a"
    refine ⟨by omega, by omega, Nat.le_refl 1, fun j E' cs' => ∃ (x3 x6 x7 : Option AV) (pg : Str) (ws' : List PyData), E' = [some (.d (.list (ns.map PyData.int))), some (.d (.int (0 + i))), some (.cel 0), x3, some (.d (.int spoils)), some (.d (.str pg)), x6, x7] ∧ cs' = [.l ws'] ∧ TxS 6000 pg ∧ PotD ws' (1000 + 300 * j), ⟨_, _, _, pg, ws3, rfl, rfl, ht0, p3.mono (by omega)⟩, fun _ _ _ _ => trivial, ?_, ?_⟩
    · rintro j y E' cs' hy ⟨x3, x6, x7, pg, ws4, rfl, rfl, ht, p4⟩
      obtain ⟨hj, rfl⟩ := rngA_get hy
      refine eg_name ?_
      walk_at "a"
      refine ev_spoil ?_
      walk_at "a"
      refine ⟨0, ws4, pg, _, rfl, rfl, p4, by omega, ht, fun s' ws5 t5 p5 => ?_⟩
      walk_at "a"
      refine os_txt (z := s') (Nat.le_trans t5.len (by decide)) ?_
      exact Cm.here ⟨_, _, _, _, ws5, rfl, rfl, t5.sliceTo 6000, p5.mono (by omega)⟩
    rintro E' cs' ⟨x3, x6, x7, pg, ws4, rfl, rfl, ht, p4⟩
    walk_at "a"
    refine ev_right ?_
    walk_at "a"
    refine ev_due ?_
    walk_at "a"
    refine ⟨pg, rfl, ht, ?_⟩
    walk_at "a"
    refine ⟨_, _, rfl, rfl, .ok ht, ?_⟩
    walk_at "a"
    show Cm 0 _ _ _
    exact Cm.mask [true, false, false, false, false, false, false, false] 0 rfl (Nat.le_refl 0) rfl rfl ⟨rfl, _, _, _, _, _, _, _, rfl⟩
  · rintro E' cs' ⟨rfl, x1, x2, x3, x4, x5, x6, x7, rfl⟩
    walk_at "a"
    exact Rt.here hk (Nat.le_refl 0) rfl rfl
theorem ok_law (T : Tx K mg) : FnOk P w K mg base CX0 12 T.law.a T.law.fd ["script"] (spLaw K) := law_of (ok_law0 T)
end
end Y

namespace Y
open PySem L2
theorem tx_of {K : PySem.W.Frag} {h : Heap} {mg : Str → Option Value} (X : K.In h) (G : h.Ns mainGlobals mg)
    {C_Script C_TurnError C_NoStep C_NoText C_NoDeed f_is_whole f_is_step f_Script_init f_Script_steps f_Script_len f_Script_has f_read_script f_NoStep_init f_NoText_init f_well f_draw f_menu f_row f_same f_script_text f_whole f_edit f_due f_near_part f_spoilt f_tried f_classes f_right f_law A_STEPS A_STEPS_2 A_STEPS_3 A_STEPS_4 A_STEPS_5 A_STEPS_6 A_STEPS_7 A_STEPS_8 A_STEPS_9 A_STEPS_10 A_STEPS_11 A_STEPS_12 A_STEPS_13 : Addr} {kV_is_whole dc_is_whole pm_is_whole cd_is_whole ct_is_whole oc_is_whole kV_is_step dc_is_step pm_is_step cd_is_step ct_is_step oc_is_step kV_Script_init dc_Script_init pm_Script_init cd_Script_init ct_Script_init oc_Script_init kV_Script_steps dc_Script_steps pm_Script_steps cd_Script_steps ct_Script_steps oc_Script_steps kV_Script_len dc_Script_len pm_Script_len cd_Script_len ct_Script_len oc_Script_len kV_Script_has dc_Script_has pm_Script_has cd_Script_has ct_Script_has oc_Script_has kV_read_script dc_read_script pm_read_script cd_read_script ct_read_script oc_read_script kV_NoStep_init dc_NoStep_init pm_NoStep_init cd_NoStep_init ct_NoStep_init oc_NoStep_init kV_NoText_init dc_NoText_init pm_NoText_init cd_NoText_init ct_NoText_init oc_NoText_init kV_well dc_well pm_well cd_well ct_well oc_well kV_draw dc_draw pm_draw cd_draw ct_draw oc_draw kV_menu dc_menu pm_menu cd_menu ct_menu oc_menu kV_row dc_row pm_row cd_row ct_row oc_row kV_same dc_same pm_same cd_same ct_same oc_same kV_script_text dc_script_text pm_script_text cd_script_text ct_script_text oc_script_text kV_whole dc_whole pm_whole cd_whole ct_whole oc_whole kV_edit dc_edit pm_edit cd_edit ct_edit oc_edit kV_due dc_due pm_due cd_due ct_due oc_due kV_near_part dc_near_part pm_near_part cd_near_part ct_near_part oc_near_part kV_spoilt dc_spoilt pm_spoilt cd_spoilt ct_spoilt oc_spoilt kV_tried dc_tried pm_tried cd_tried ct_tried oc_tried kV_classes dc_classes pm_classes cd_classes ct_classes oc_classes kV_right dc_right pm_right cd_right ct_right oc_right kV_law dc_law pm_law cd_law ct_law oc_law : Value} {od_is_whole an_is_whole od_is_step an_is_step od_Script_init an_Script_init od_Script_steps an_Script_steps od_Script_len an_Script_len od_Script_has an_Script_has od_read_script an_read_script od_NoStep_init an_NoStep_init od_NoText_init an_NoText_init od_well an_well od_draw an_draw od_menu an_menu od_row an_row od_same an_same od_script_text an_script_text od_whole an_whole od_edit an_edit od_due an_due od_near_part an_near_part od_spoilt an_spoilt od_tried an_tried od_classes an_classes od_right an_right od_law an_law dd_w_STEPS_0 dd_w_STEPS_13 dd_w_STEPS_15 dd_w_STEPS_18 dd_w_STEPS_21 dd_w_STEPS_24 dd_w_STEPS_27 dd_w_STEPS_30 dd_w_STEPS_33 dd_w_STEPS_36 dd_w_STEPS_39 dd_w_STEPS_42 dd_w_STEPS_45 : Option Addr} {sl_is_whole sl_is_step sl_Script_init sl_Script_steps sl_Script_len sl_Script_has sl_read_script sl_NoStep_init sl_NoText_init sl_well sl_draw sl_menu sl_row sl_same sl_script_text sl_whole sl_edit sl_due sl_near_part sl_spoilt sl_tried sl_classes sl_right sl_law ss_w_STEPS_0 ss_w_STEPS_13 ss_w_STEPS_15 ss_w_STEPS_18 ss_w_STEPS_21 ss_w_STEPS_24 ss_w_STEPS_27 ss_w_STEPS_30 ss_w_STEPS_33 ss_w_STEPS_36 ss_w_STEPS_39 ss_w_STEPS_42 ss_w_STEPS_45 : Array (Option Value)} {tk_STEPS_15 tk_STEPS_17 tk_STEPS_18 tk_STEPS_20 tk_STEPS_21 tk_STEPS_23 tk_STEPS_24 tk_STEPS_26 tk_STEPS_27 tk_STEPS_29 tk_STEPS_30 tk_STEPS_32 tk_STEPS_33 tk_STEPS_35 tk_STEPS_36 tk_STEPS_38 tk_STEPS_39 tk_STEPS_41 tk_STEPS_42 tk_STEPS_44 tk_STEPS_45 tk_STEPS_47 tk_STEPS_48 tk_MOST_STEPS tk_NOTHING tk_BETWEEN : Tok} {nn_w_STEPS_0 nn_w_STEPS_13 nn_w_STEPS_15 nn_w_STEPS_18 nn_w_STEPS_21 nn_w_STEPS_24 nn_w_STEPS_27 nn_w_STEPS_30 nn_w_STEPS_33 nn_w_STEPS_36 nn_w_STEPS_39 nn_w_STEPS_42 nn_w_STEPS_45 : Nat} {nm_NoStep qq_NoStep : Str} {NN_NoStep : Addr} {bs_NoStep : List Value} {sn_NoStep : List Str} {sub_NoStep : List Value} {ab_NoStep : Bool} {col_NoStep : Option Bool} {dd_NoStep : Option Addr} {m0_NoStep m1_NoStep m2_NoStep m3_NoStep m5_NoStep : Option Value} {nm_NoText qq_NoText : Str} {NN_NoText : Addr} {bs_NoText : List Value} {sn_NoText : List Str} {sub_NoText : List Value} {ab_NoText : Bool} {col_NoText : Option Bool} {dd_NoText : Option Addr} {m0_NoText m1_NoText m2_NoText m3_NoText m5_NoText : Option Value}
    (cn : PySem.W.specialIn K (.builtin "object.__class__") "__get__" = some (some (.builtin "getset_descriptor.__get__")))
    (ctk : PySem.W.takesIn K (.builtin "object.__class__") = some true)
    (nC_Script : PySem.W.nsIn K mainGlobals "Script" = some (some (.ref C_Script)))
    (nC_TurnError : PySem.W.nsIn K mainGlobals "TurnError" = some (some (.ref C_TurnError)))
    (nC_NoStep : PySem.W.nsIn K mainGlobals "NoStep" = some (some (.ref C_NoStep)))
    (nC_NoText : PySem.W.nsIn K mainGlobals "NoText" = some (some (.ref C_NoText)))
    (nC_NoDeed : PySem.W.nsIn K mainGlobals "NoDeed" = some (some (.ref C_NoDeed)))
    (a_is_whole : PySem.W.nsIn K mainGlobals "is_whole" = some (some (.ref f_is_whole)))
    (l_is_whole : K.lookup f_is_whole = some ⟨oc_is_whole, od_is_whole, .func (PySem.W.fnOf "is_whole" "is_whole" (defArgs s_is_whole) (defBody s_is_whole) (defScope s_is_whole) .none kV_is_whole dc_is_whole pm_is_whole an_is_whole cd_is_whole ct_is_whole), sl_is_whole⟩)
    (c_is_whole : PySem.W.codeIn K cd_is_whole "is_whole" = true)
    (k_is_whole : PySem.W.keepIn K (.ref f_is_whole) = true)
    (a_is_step : PySem.W.nsIn K mainGlobals "is_step" = some (some (.ref f_is_step)))
    (l_is_step : K.lookup f_is_step = some ⟨oc_is_step, od_is_step, .func (PySem.W.fnOf "is_step" "is_step" (defArgs s_is_step) (defBody s_is_step) (defScope s_is_step) .none kV_is_step dc_is_step pm_is_step an_is_step cd_is_step ct_is_step), sl_is_step⟩)
    (c_is_step : PySem.W.codeIn K cd_is_step "is_step" = true)
    (k_is_step : PySem.W.keepIn K (.ref f_is_step) = true)
    (a_Script_init : PySem.W.findIn K (.ref C_Script) "__init__" = some (some (.ref f_Script_init)))
    (i_Script_init : PySem.W.isFn K (.ref f_Script_init) = true)
    (l_Script_init : K.lookup f_Script_init = some ⟨oc_Script_init, od_Script_init, .func (PySem.W.fnOf "__init__" "Script.__init__" (defArgs s_Script_init) (defBody s_Script_init) (defScope s_Script_init) .none kV_Script_init dc_Script_init pm_Script_init an_Script_init cd_Script_init ct_Script_init), sl_Script_init⟩)
    (c_Script_init : PySem.W.codeIn K cd_Script_init "Script.__init__" = true)
    (k_Script_init : PySem.W.keepIn K (.ref f_Script_init) = true)
    (a_Script_steps : PySem.W.findIn K (.ref C_Script) "steps" = some (some (.ref f_Script_steps)))
    (i_Script_steps : PySem.W.isFn K (.ref f_Script_steps) = true)
    (l_Script_steps : K.lookup f_Script_steps = some ⟨oc_Script_steps, od_Script_steps, .func (PySem.W.fnOf "steps" "Script.steps" (defArgs s_Script_steps) (defBody s_Script_steps) (defScope s_Script_steps) .none kV_Script_steps dc_Script_steps pm_Script_steps an_Script_steps cd_Script_steps ct_Script_steps), sl_Script_steps⟩)
    (c_Script_steps : PySem.W.codeIn K cd_Script_steps "Script.steps" = true)
    (k_Script_steps : PySem.W.keepIn K (.ref f_Script_steps) = true)
    (a_Script_len : PySem.W.findIn K (.ref C_Script) "__len__" = some (some (.ref f_Script_len)))
    (i_Script_len : PySem.W.isFn K (.ref f_Script_len) = true)
    (l_Script_len : K.lookup f_Script_len = some ⟨oc_Script_len, od_Script_len, .func (PySem.W.fnOf "__len__" "Script.__len__" (defArgs s_Script_len) (defBody s_Script_len) (defScope s_Script_len) .none kV_Script_len dc_Script_len pm_Script_len an_Script_len cd_Script_len ct_Script_len), sl_Script_len⟩)
    (c_Script_len : PySem.W.codeIn K cd_Script_len "Script.__len__" = true)
    (k_Script_len : PySem.W.keepIn K (.ref f_Script_len) = true)
    (a_Script_has : PySem.W.findIn K (.ref C_Script) "has" = some (some (.ref f_Script_has)))
    (i_Script_has : PySem.W.isFn K (.ref f_Script_has) = true)
    (l_Script_has : K.lookup f_Script_has = some ⟨oc_Script_has, od_Script_has, .func (PySem.W.fnOf "has" "Script.has" (defArgs s_Script_has) (defBody s_Script_has) (defScope s_Script_has) .none kV_Script_has dc_Script_has pm_Script_has an_Script_has cd_Script_has ct_Script_has), sl_Script_has⟩)
    (c_Script_has : PySem.W.codeIn K cd_Script_has "Script.has" = true)
    (k_Script_has : PySem.W.keepIn K (.ref f_Script_has) = true)
    (a_read_script : PySem.W.nsIn K mainGlobals "read_script" = some (some (.ref f_read_script)))
    (l_read_script : K.lookup f_read_script = some ⟨oc_read_script, od_read_script, .func (PySem.W.fnOf "read_script" "read_script" (defArgs s_read_script) (defBody s_read_script) (defScope s_read_script) .none kV_read_script dc_read_script pm_read_script an_read_script cd_read_script ct_read_script), sl_read_script⟩)
    (c_read_script : PySem.W.codeIn K cd_read_script "read_script" = true)
    (k_read_script : PySem.W.keepIn K (.ref f_read_script) = true)
    (a_NoStep_init : PySem.W.findIn K (.ref C_NoStep) "__init__" = some (some (.ref f_NoStep_init)))
    (i_NoStep_init : PySem.W.isFn K (.ref f_NoStep_init) = true)
    (l_NoStep_init : K.lookup f_NoStep_init = some ⟨oc_NoStep_init, od_NoStep_init, .func (PySem.W.fnOf "__init__" "NoStep.__init__" (defArgs s_NoStep_init) (defBody s_NoStep_init) (defScope s_NoStep_init) .none kV_NoStep_init dc_NoStep_init pm_NoStep_init an_NoStep_init cd_NoStep_init ct_NoStep_init), sl_NoStep_init⟩)
    (c_NoStep_init : PySem.W.codeIn K cd_NoStep_init "NoStep.__init__" = true)
    (k_NoStep_init : PySem.W.keepIn K (.ref f_NoStep_init) = true)
    (a_NoText_init : PySem.W.findIn K (.ref C_NoText) "__init__" = some (some (.ref f_NoText_init)))
    (i_NoText_init : PySem.W.isFn K (.ref f_NoText_init) = true)
    (l_NoText_init : K.lookup f_NoText_init = some ⟨oc_NoText_init, od_NoText_init, .func (PySem.W.fnOf "__init__" "NoText.__init__" (defArgs s_NoText_init) (defBody s_NoText_init) (defScope s_NoText_init) .none kV_NoText_init dc_NoText_init pm_NoText_init an_NoText_init cd_NoText_init ct_NoText_init), sl_NoText_init⟩)
    (c_NoText_init : PySem.W.codeIn K cd_NoText_init "NoText.__init__" = true)
    (k_NoText_init : PySem.W.keepIn K (.ref f_NoText_init) = true)
    (a_well : PySem.W.nsIn K mainGlobals "_law_well" = some (some (.ref f_well)))
    (l_well : K.lookup f_well = some ⟨oc_well, od_well, .func (PySem.W.fnOf "_law_well" "_law_well" (defArgs s_well) (defBody s_well) (defScope s_well) .none kV_well dc_well pm_well an_well cd_well ct_well), sl_well⟩)
    (c_well : PySem.W.codeIn K cd_well "_law_well" = true)
    (k_well : PySem.W.keepIn K (.ref f_well) = true)
    (a_draw : PySem.W.nsIn K mainGlobals "_law_draw" = some (some (.ref f_draw)))
    (l_draw : K.lookup f_draw = some ⟨oc_draw, od_draw, .func (PySem.W.fnOf "_law_draw" "_law_draw" (defArgs s_draw) (defBody s_draw) (defScope s_draw) .none kV_draw dc_draw pm_draw an_draw cd_draw ct_draw), sl_draw⟩)
    (c_draw : PySem.W.codeIn K cd_draw "_law_draw" = true)
    (k_draw : PySem.W.keepIn K (.ref f_draw) = true)
    (a_menu : PySem.W.nsIn K mainGlobals "_law_menu" = some (some (.ref f_menu)))
    (l_menu : K.lookup f_menu = some ⟨oc_menu, od_menu, .func (PySem.W.fnOf "_law_menu" "_law_menu" (defArgs s_menu) (defBody s_menu) (defScope s_menu) .none kV_menu dc_menu pm_menu an_menu cd_menu ct_menu), sl_menu⟩)
    (c_menu : PySem.W.codeIn K cd_menu "_law_menu" = true)
    (k_menu : PySem.W.keepIn K (.ref f_menu) = true)
    (a_row : PySem.W.nsIn K mainGlobals "_law_row" = some (some (.ref f_row)))
    (l_row : K.lookup f_row = some ⟨oc_row, od_row, .func (PySem.W.fnOf "_law_row" "_law_row" (defArgs s_row) (defBody s_row) (defScope s_row) .none kV_row dc_row pm_row an_row cd_row ct_row), sl_row⟩)
    (c_row : PySem.W.codeIn K cd_row "_law_row" = true)
    (k_row : PySem.W.keepIn K (.ref f_row) = true)
    (a_same : PySem.W.nsIn K mainGlobals "_law_same" = some (some (.ref f_same)))
    (l_same : K.lookup f_same = some ⟨oc_same, od_same, .func (PySem.W.fnOf "_law_same" "_law_same" (defArgs s_same) (defBody s_same) (defScope s_same) .none kV_same dc_same pm_same an_same cd_same ct_same), sl_same⟩)
    (c_same : PySem.W.codeIn K cd_same "_law_same" = true)
    (k_same : PySem.W.keepIn K (.ref f_same) = true)
    (a_script_text : PySem.W.nsIn K mainGlobals "_law_script_text" = some (some (.ref f_script_text)))
    (l_script_text : K.lookup f_script_text = some ⟨oc_script_text, od_script_text, .func (PySem.W.fnOf "_law_script_text" "_law_script_text" (defArgs s_script_text) (defBody s_script_text) (defScope s_script_text) .none kV_script_text dc_script_text pm_script_text an_script_text cd_script_text ct_script_text), sl_script_text⟩)
    (c_script_text : PySem.W.codeIn K cd_script_text "_law_script_text" = true)
    (k_script_text : PySem.W.keepIn K (.ref f_script_text) = true)
    (a_whole : PySem.W.nsIn K mainGlobals "_law_whole" = some (some (.ref f_whole)))
    (l_whole : K.lookup f_whole = some ⟨oc_whole, od_whole, .func (PySem.W.fnOf "_law_whole" "_law_whole" (defArgs s_whole) (defBody s_whole) (defScope s_whole) .none kV_whole dc_whole pm_whole an_whole cd_whole ct_whole), sl_whole⟩)
    (c_whole : PySem.W.codeIn K cd_whole "_law_whole" = true)
    (k_whole : PySem.W.keepIn K (.ref f_whole) = true)
    (a_edit : PySem.W.nsIn K mainGlobals "_law_edit" = some (some (.ref f_edit)))
    (l_edit : K.lookup f_edit = some ⟨oc_edit, od_edit, .func (PySem.W.fnOf "_law_edit" "_law_edit" (defArgs s_edit) (defBody s_edit) (defScope s_edit) .none kV_edit dc_edit pm_edit an_edit cd_edit ct_edit), sl_edit⟩)
    (c_edit : PySem.W.codeIn K cd_edit "_law_edit" = true)
    (k_edit : PySem.W.keepIn K (.ref f_edit) = true)
    (a_due : PySem.W.nsIn K mainGlobals "_law_due" = some (some (.ref f_due)))
    (l_due : K.lookup f_due = some ⟨oc_due, od_due, .func (PySem.W.fnOf "_law_due" "_law_due" (defArgs s_due) (defBody s_due) (defScope s_due) .none kV_due dc_due pm_due an_due cd_due ct_due), sl_due⟩)
    (c_due : PySem.W.codeIn K cd_due "_law_due" = true)
    (k_due : PySem.W.keepIn K (.ref f_due) = true)
    (a_near_part : PySem.W.nsIn K mainGlobals "_law_near_part" = some (some (.ref f_near_part)))
    (l_near_part : K.lookup f_near_part = some ⟨oc_near_part, od_near_part, .func (PySem.W.fnOf "_law_near_part" "_law_near_part" (defArgs s_near_part) (defBody s_near_part) (defScope s_near_part) .none kV_near_part dc_near_part pm_near_part an_near_part cd_near_part ct_near_part), sl_near_part⟩)
    (c_near_part : PySem.W.codeIn K cd_near_part "_law_near_part" = true)
    (k_near_part : PySem.W.keepIn K (.ref f_near_part) = true)
    (a_spoilt : PySem.W.nsIn K mainGlobals "_law_spoilt" = some (some (.ref f_spoilt)))
    (l_spoilt : K.lookup f_spoilt = some ⟨oc_spoilt, od_spoilt, .func (PySem.W.fnOf "_law_spoilt" "_law_spoilt" (defArgs s_spoilt) (defBody s_spoilt) (defScope s_spoilt) .none kV_spoilt dc_spoilt pm_spoilt an_spoilt cd_spoilt ct_spoilt), sl_spoilt⟩)
    (c_spoilt : PySem.W.codeIn K cd_spoilt "_law_spoilt" = true)
    (k_spoilt : PySem.W.keepIn K (.ref f_spoilt) = true)
    (a_tried : PySem.W.nsIn K mainGlobals "_law_tried" = some (some (.ref f_tried)))
    (l_tried : K.lookup f_tried = some ⟨oc_tried, od_tried, .func (PySem.W.fnOf "_law_tried" "_law_tried" (defArgs s_tried) (defBody s_tried) (defScope s_tried) .none kV_tried dc_tried pm_tried an_tried cd_tried ct_tried), sl_tried⟩)
    (c_tried : PySem.W.codeIn K cd_tried "_law_tried" = true)
    (k_tried : PySem.W.keepIn K (.ref f_tried) = true)
    (a_classes : PySem.W.nsIn K mainGlobals "_law_classes" = some (some (.ref f_classes)))
    (l_classes : K.lookup f_classes = some ⟨oc_classes, od_classes, .func (PySem.W.fnOf "_law_classes" "_law_classes" (defArgs s_classes) (defBody s_classes) (defScope s_classes) .none kV_classes dc_classes pm_classes an_classes cd_classes ct_classes), sl_classes⟩)
    (c_classes : PySem.W.codeIn K cd_classes "_law_classes" = true)
    (k_classes : PySem.W.keepIn K (.ref f_classes) = true)
    (a_right : PySem.W.nsIn K mainGlobals "_law_right" = some (some (.ref f_right)))
    (l_right : K.lookup f_right = some ⟨oc_right, od_right, .func (PySem.W.fnOf "_law_right" "_law_right" (defArgs s_right) (defBody s_right) (defScope s_right) .none kV_right dc_right pm_right an_right cd_right ct_right), sl_right⟩)
    (c_right : PySem.W.codeIn K cd_right "_law_right" = true)
    (k_right : PySem.W.keepIn K (.ref f_right) = true)
    (a_law : PySem.W.nsIn K mainGlobals "law" = some (some (.ref f_law)))
    (l_law : K.lookup f_law = some ⟨oc_law, od_law, .func (PySem.W.fnOf "law" "law" (defArgs s_law) (defBody s_law) (defScope s_law) .none kV_law dc_law pm_law an_law cd_law ct_law), sl_law⟩)
    (c_law : PySem.W.codeIn K cd_law "law" = true)
    (k_law : PySem.W.keepIn K (.ref f_law) = true)
    (pg_Script : PySem.W.plainGet K C_Script Str.empty = true)
    (hd_Script : PySem.W.hasDictIn K C_Script = true)
    (po_Script : PySem.W.plainOver K C_Script = true)
    (sa_Script : PySem.W.findIn K (.ref C_Script) "__setattr__" = some (some (.builtin "object.__setattr__")))
    (mk_Script : PySem.W.makesIn K C_Script = true)
    (kc_Script : PySem.W.keepIn K (.ref C_Script) = true)
    (ha_Script : PySem.W.findIn K (.ref C_Script) "__class__" = some (some (.builtin "object.__class__")))
    (hm_Script : PySem.W.mroIn K C_Script (.type "object") = some true)
    (n_Script_kept_steps : PySem.W.findIn K (.ref C_Script) "kept_steps" = some none)
    (eb_TurnError : PySem.W.subIn K (.ref C_TurnError) (.type "BaseException") = some true)
    (ty_TurnError : PySem.W.typeIn K (.ref C_TurnError) = some (.type "type"))
    (hd_TurnError : PySem.W.hasDictIn K C_TurnError = true)
    (kc_TurnError : PySem.W.keepIn K (.ref C_TurnError) = true)
    (ga_TurnError : PySem.W.findIn K (.ref C_TurnError) "__getattribute__" = some (some (.builtin "BaseException.__getattribute__")))
    (gg_TurnError : PySem.W.findIn K (.ref C_TurnError) "__getattr__" = some none)
    (ha_TurnError : PySem.W.findIn K (.ref C_TurnError) "__class__" = some (some (.builtin "object.__class__")))
    (hm_TurnError : PySem.W.mroIn K C_TurnError (.type "object") = some true)
    (sv_TurnError : PySem.W.subIn K (.ref C_TurnError) (.type "ValueError") = some true)
    (eb_NoStep : PySem.W.subIn K (.ref C_NoStep) (.type "BaseException") = some true)
    (ty_NoStep : PySem.W.typeIn K (.ref C_NoStep) = some (.type "type"))
    (hd_NoStep : PySem.W.hasDictIn K C_NoStep = true)
    (kc_NoStep : PySem.W.keepIn K (.ref C_NoStep) = true)
    (ga_NoStep : PySem.W.findIn K (.ref C_NoStep) "__getattribute__" = some (some (.builtin "BaseException.__getattribute__")))
    (gg_NoStep : PySem.W.findIn K (.ref C_NoStep) "__getattr__" = some none)
    (ha_NoStep : PySem.W.findIn K (.ref C_NoStep) "__class__" = some (some (.builtin "object.__class__")))
    (hm_NoStep : PySem.W.mroIn K C_NoStep (.type "object") = some true)
    (sv_NoStep : PySem.W.subIn K (.ref C_NoStep) (.type "ValueError") = some true)
    (xL_NoStep : K.lookup C_NoStep = some (PySem.excClassObj nm_NoStep qq_NoStep C_NoStep NN_NoStep bs_NoStep [.ref C_TurnError, .type "ValueError", .type "Exception", .type "BaseException", .type "object"] true sn_NoStep sub_NoStep ab_NoStep col_NoStep dd_NoStep m0_NoStep m1_NoStep m2_NoStep m3_NoStep m5_NoStep "ValueError.__new__"))
    (sa_NoStep : PySem.W.findIn K (.ref C_NoStep) "__setattr__" = some (some (.builtin "object.__setattr__")))
    (nf_NoStep : PySem.W.findIn K (.ref C_NoStep) "index" = some none)
    (tt_NoStep : PySem.W.typeIn K (.ref f_NoStep_init) = some (.type "function"))
    (eb_NoText : PySem.W.subIn K (.ref C_NoText) (.type "BaseException") = some true)
    (ty_NoText : PySem.W.typeIn K (.ref C_NoText) = some (.type "type"))
    (hd_NoText : PySem.W.hasDictIn K C_NoText = true)
    (kc_NoText : PySem.W.keepIn K (.ref C_NoText) = true)
    (ga_NoText : PySem.W.findIn K (.ref C_NoText) "__getattribute__" = some (some (.builtin "BaseException.__getattribute__")))
    (gg_NoText : PySem.W.findIn K (.ref C_NoText) "__getattr__" = some none)
    (ha_NoText : PySem.W.findIn K (.ref C_NoText) "__class__" = some (some (.builtin "object.__class__")))
    (hm_NoText : PySem.W.mroIn K C_NoText (.type "object") = some true)
    (sv_NoText : PySem.W.subIn K (.ref C_NoText) (.type "ValueError") = some true)
    (xL_NoText : K.lookup C_NoText = some (PySem.excClassObj nm_NoText qq_NoText C_NoText NN_NoText bs_NoText [.ref C_TurnError, .type "ValueError", .type "Exception", .type "BaseException", .type "object"] true sn_NoText sub_NoText ab_NoText col_NoText dd_NoText m0_NoText m1_NoText m2_NoText m3_NoText m5_NoText "ValueError.__new__"))
    (sa_NoText : PySem.W.findIn K (.ref C_NoText) "__setattr__" = some (some (.builtin "object.__setattr__")))
    (nf_NoText : PySem.W.findIn K (.ref C_NoText) "part" = some none)
    (tt_NoText : PySem.W.typeIn K (.ref f_NoText_init) = some (.type "function"))
    (eb_NoDeed : PySem.W.subIn K (.ref C_NoDeed) (.type "BaseException") = some true)
    (ty_NoDeed : PySem.W.typeIn K (.ref C_NoDeed) = some (.type "type"))
    (hd_NoDeed : PySem.W.hasDictIn K C_NoDeed = true)
    (kc_NoDeed : PySem.W.keepIn K (.ref C_NoDeed) = true)
    (ga_NoDeed : PySem.W.findIn K (.ref C_NoDeed) "__getattribute__" = some (some (.builtin "BaseException.__getattribute__")))
    (gg_NoDeed : PySem.W.findIn K (.ref C_NoDeed) "__getattr__" = some none)
    (ha_NoDeed : PySem.W.findIn K (.ref C_NoDeed) "__class__" = some (some (.builtin "object.__class__")))
    (hm_NoDeed : PySem.W.mroIn K C_NoDeed (.type "object") = some true)
    (sv_NoDeed : PySem.W.subIn K (.ref C_NoDeed) (.type "ValueError") = some true)
    (sb_TurnError_TurnError : PySem.W.subIn K (.ref C_TurnError) (.ref C_TurnError) = some true)
    (sb_NoStep_TurnError : PySem.W.subIn K (.ref C_NoStep) (.ref C_TurnError) = some true)
    (sb_NoStep_NoStep : PySem.W.subIn K (.ref C_NoStep) (.ref C_NoStep) = some true)
    (sb_NoStep_NoText : PySem.W.subIn K (.ref C_NoStep) (.ref C_NoText) = some false)
    (sb_NoStep_NoDeed : PySem.W.subIn K (.ref C_NoStep) (.ref C_NoDeed) = some false)
    (sb_NoText_TurnError : PySem.W.subIn K (.ref C_NoText) (.ref C_TurnError) = some true)
    (sb_NoText_NoStep : PySem.W.subIn K (.ref C_NoText) (.ref C_NoStep) = some false)
    (sb_NoText_NoText : PySem.W.subIn K (.ref C_NoText) (.ref C_NoText) = some true)
    (sb_NoText_NoDeed : PySem.W.subIn K (.ref C_NoText) (.ref C_NoDeed) = some false)
    (sb_NoDeed_NoDeed : PySem.W.subIn K (.ref C_NoDeed) (.ref C_NoDeed) = some true)
    (v_STEPS : PySem.W.nsIn K mainGlobals "STEPS" = some (some (.ref A_STEPS)))
    (w_STEPS_0 : K.lookup A_STEPS = some ⟨.type "tuple", dd_w_STEPS_0, .seq #[.ref A_STEPS_2, .ref A_STEPS_3, .ref A_STEPS_4, .ref A_STEPS_5, .ref A_STEPS_6, .ref A_STEPS_7, .ref A_STEPS_8, .ref A_STEPS_9, .ref A_STEPS_10, .ref A_STEPS_11, .ref A_STEPS_12, .ref A_STEPS_13] nn_w_STEPS_0, ss_w_STEPS_0⟩)
    (w_STEPS_13 : K.lookup A_STEPS_13 = some ⟨.type "tuple", dd_w_STEPS_13, .seq #[.str "drop" tk_STEPS_15] nn_w_STEPS_13, ss_w_STEPS_13⟩)
    (w_STEPS_15 : K.lookup A_STEPS_12 = some ⟨.type "tuple", dd_w_STEPS_15, .seq #[.str "tie" tk_STEPS_17, .str "free" tk_STEPS_18] nn_w_STEPS_15, ss_w_STEPS_15⟩)
    (w_STEPS_18 : K.lookup A_STEPS_11 = some ⟨.type "tuple", dd_w_STEPS_18, .seq #[.str "tie" tk_STEPS_20, .str "all" tk_STEPS_21] nn_w_STEPS_18, ss_w_STEPS_18⟩)
    (w_STEPS_21 : K.lookup A_STEPS_10 = some ⟨.type "tuple", dd_w_STEPS_21, .seq #[.str "tie" tk_STEPS_23, .str "new" tk_STEPS_24] nn_w_STEPS_21, ss_w_STEPS_21⟩)
    (w_STEPS_24 : K.lookup A_STEPS_9 = some ⟨.type "tuple", dd_w_STEPS_24, .seq #[.str "label" tk_STEPS_26, .str "free" tk_STEPS_27] nn_w_STEPS_24, ss_w_STEPS_24⟩)
    (w_STEPS_27 : K.lookup A_STEPS_8 = some ⟨.type "tuple", dd_w_STEPS_27, .seq #[.str "label" tk_STEPS_29, .str "all" tk_STEPS_30] nn_w_STEPS_27, ss_w_STEPS_27⟩)
    (w_STEPS_30 : K.lookup A_STEPS_7 = some ⟨.type "tuple", dd_w_STEPS_30, .seq #[.str "label" tk_STEPS_32, .str "new" tk_STEPS_33] nn_w_STEPS_30, ss_w_STEPS_30⟩)
    (w_STEPS_33 : K.lookup A_STEPS_6 = some ⟨.type "tuple", dd_w_STEPS_33, .seq #[.str "start" tk_STEPS_35, .str "free" tk_STEPS_36] nn_w_STEPS_33, ss_w_STEPS_33⟩)
    (w_STEPS_36 : K.lookup A_STEPS_5 = some ⟨.type "tuple", dd_w_STEPS_36, .seq #[.str "start" tk_STEPS_38, .str "all" tk_STEPS_39] nn_w_STEPS_36, ss_w_STEPS_36⟩)
    (w_STEPS_39 : K.lookup A_STEPS_4 = some ⟨.type "tuple", dd_w_STEPS_39, .seq #[.str "start" tk_STEPS_41, .str "new" tk_STEPS_42] nn_w_STEPS_39, ss_w_STEPS_39⟩)
    (w_STEPS_42 : K.lookup A_STEPS_3 = some ⟨.type "tuple", dd_w_STEPS_42, .seq #[.str "make" tk_STEPS_44, .str "standing" tk_STEPS_45] nn_w_STEPS_42, ss_w_STEPS_42⟩)
    (w_STEPS_45 : K.lookup A_STEPS_2 = some ⟨.type "tuple", dd_w_STEPS_45, .seq #[.str "make" tk_STEPS_47, .str "all" tk_STEPS_48] nn_w_STEPS_45, ss_w_STEPS_45⟩)
    (v_MOST_STEPS : PySem.W.nsIn K mainGlobals "MOST_STEPS" = some (some (.int 12 tk_MOST_STEPS)))
    (v_NOTHING : PySem.W.nsIn K mainGlobals "NOTHING" = some (some (.str "nothing" tk_NOTHING)))
    (v_BETWEEN : PySem.W.nsIn K mainGlobals "BETWEEN" = some (some (.str ", " tk_BETWEEN)))
    (z_len : PySem.W.nsIn K mainGlobals "len" = some none)
    (z_isinstance : PySem.W.nsIn K mainGlobals "isinstance" = some none)
    (z_int : PySem.W.nsIn K mainGlobals "int" = some none)
    (z_bool : PySem.W.nsIn K mainGlobals "bool" = some none)
    (z_str : PySem.W.nsIn K mainGlobals "str" = some none)
    (z_tuple : PySem.W.nsIn K mainGlobals "tuple" = some none)
    (z_list : PySem.W.nsIn K mainGlobals "list" = some none)
    (z_all : PySem.W.nsIn K mainGlobals "all" = some none)
    (z_max : PySem.W.nsIn K mainGlobals "max" = some none)
    (z_range : PySem.W.nsIn K mainGlobals "range" = some none)
    (z_enumerate : PySem.W.nsIn K mainGlobals "enumerate" = some none)
    (z_ValueError : PySem.W.nsIn K mainGlobals "ValueError" = some none) :
    ∃ T : Tx K mg, ∀ (s : Shared) (v : Value), BindsTo s T.law.fd ⟨[v], []⟩ [("script", v)] := ⟨{
    c_Script := C_Script, g_Script := PySem.W.mg_of X G nC_Script,
    c_TurnError := C_TurnError, g_TurnError := PySem.W.mg_of X G nC_TurnError,
    c_NoStep := C_NoStep, g_NoStep := PySem.W.mg_of X G nC_NoStep,
    c_NoText := C_NoText, g_NoText := PySem.W.mg_of X G nC_NoText,
    c_NoDeed := C_NoDeed, g_NoDeed := PySem.W.mg_of X G nC_NoDeed,
    is_whole := ⟨f_is_whole, _, fun_mk (st := s_is_whole) l_is_whole c_is_whole k_is_whole, PySem.W.mg_of X G a_is_whole, ((fun_mk (st := s_is_whole) l_is_whole c_is_whole k_is_whole).binds (ps := ["thing"]) fun _ _ _ _ _ _ us hl => match us, hl with | [_], _ => rfl)⟩,
    is_step := ⟨f_is_step, _, fun_mk (st := s_is_step) l_is_step c_is_step k_is_step, PySem.W.mg_of X G a_is_step, ((fun_mk (st := s_is_step) l_is_step c_is_step k_is_step).binds (ps := ["thing"]) fun _ _ _ _ _ _ us hl => match us, hl with | [_], _ => rfl)⟩,
    Script_init := ⟨f_Script_init, _, fun_mk (st := s_Script_init) l_Script_init c_Script_init k_Script_init, ⟨a_Script_init, i_Script_init, k_Script_init⟩, ((fun_mk (st := s_Script_init) l_Script_init c_Script_init k_Script_init).binds (ps := ["self", "steps"]) fun _ _ _ _ _ _ us hl => match us, hl with | [_, _], _ => rfl)⟩,
    Script_steps := ⟨f_Script_steps, _, fun_mk (st := s_Script_steps) l_Script_steps c_Script_steps k_Script_steps, ⟨a_Script_steps, i_Script_steps, k_Script_steps⟩, ((fun_mk (st := s_Script_steps) l_Script_steps c_Script_steps k_Script_steps).binds (ps := ["self"]) fun _ _ _ _ _ _ us hl => match us, hl with | [_], _ => rfl)⟩,
    Script_len := ⟨f_Script_len, _, fun_mk (st := s_Script_len) l_Script_len c_Script_len k_Script_len, ⟨a_Script_len, i_Script_len, k_Script_len⟩, ((fun_mk (st := s_Script_len) l_Script_len c_Script_len k_Script_len).binds (ps := ["self"]) fun _ _ _ _ _ _ us hl => match us, hl with | [_], _ => rfl)⟩,
    Script_has := ⟨f_Script_has, _, fun_mk (st := s_Script_has) l_Script_has c_Script_has k_Script_has, ⟨a_Script_has, i_Script_has, k_Script_has⟩, ((fun_mk (st := s_Script_has) l_Script_has c_Script_has k_Script_has).binds (ps := ["self", "index"]) fun _ _ _ _ _ _ us hl => match us, hl with | [_, _], _ => rfl)⟩,
    read_script := ⟨f_read_script, _, fun_mk (st := s_read_script) l_read_script c_read_script k_read_script, PySem.W.mg_of X G a_read_script, ((fun_mk (st := s_read_script) l_read_script c_read_script k_read_script).binds (ps := ["text"]) fun _ _ _ _ _ _ us hl => match us, hl with | [_], _ => rfl)⟩,
    NoStep_init := ⟨f_NoStep_init, _, fun_mk (st := s_NoStep_init) l_NoStep_init c_NoStep_init k_NoStep_init, ⟨a_NoStep_init, i_NoStep_init, k_NoStep_init⟩, ((fun_mk (st := s_NoStep_init) l_NoStep_init c_NoStep_init k_NoStep_init).binds (ps := ["self", "index"]) fun _ _ _ _ _ _ us hl => match us, hl with | [_, _], _ => rfl)⟩,
    NoText_init := ⟨f_NoText_init, _, fun_mk (st := s_NoText_init) l_NoText_init c_NoText_init k_NoText_init, ⟨a_NoText_init, i_NoText_init, k_NoText_init⟩, ((fun_mk (st := s_NoText_init) l_NoText_init c_NoText_init k_NoText_init).binds (ps := ["self", "part"]) fun _ _ _ _ _ _ us hl => match us, hl with | [_, _], _ => rfl)⟩,
    well := ⟨f_well, _, fun_mk (st := s_well) l_well c_well k_well, PySem.W.mg_of X G a_well, ((fun_mk (st := s_well) l_well c_well k_well).binds (ps := ["script", "k"]) fun _ _ _ _ _ _ us hl => match us, hl with | [_, _], _ => rfl)⟩,
    draw := ⟨f_draw, _, fun_mk (st := s_draw) l_draw c_draw k_draw, PySem.W.mg_of X G a_draw, ((fun_mk (st := s_draw) l_draw c_draw k_draw).binds (ps := ["well", "many"]) fun _ _ _ _ _ _ us hl => match us, hl with | [_, _], _ => rfl)⟩,
    menu := ⟨f_menu, _, fun_mk (st := s_menu) l_menu c_menu k_menu, PySem.W.mg_of X G a_menu, ((fun_mk (st := s_menu) l_menu c_menu k_menu).binds (ps := []) fun _ _ _ _ _ _ us hl => match us, hl with | [], _ => rfl)⟩,
    row := ⟨f_row, _, fun_mk (st := s_row) l_row c_row k_row, PySem.W.mg_of X G a_row, ((fun_mk (st := s_row) l_row c_row k_row).binds (ps := ["well", "most"]) fun _ _ _ _ _ _ us hl => match us, hl with | [_, _], _ => rfl)⟩,
    same := ⟨f_same, _, fun_mk (st := s_same) l_same c_same k_same, PySem.W.mg_of X G a_same, ((fun_mk (st := s_same) l_same c_same k_same).binds (ps := ["actual", "expected"]) fun _ _ _ _ _ _ us hl => match us, hl with | [_, _], _ => rfl)⟩,
    script_text := ⟨f_script_text, _, fun_mk (st := s_script_text) l_script_text c_script_text k_script_text, PySem.W.mg_of X G a_script_text, ((fun_mk (st := s_script_text) l_script_text c_script_text k_script_text).binds (ps := ["row"]) fun _ _ _ _ _ _ us hl => match us, hl with | [_], _ => rfl)⟩,
    whole := ⟨f_whole, _, fun_mk (st := s_whole) l_whole c_whole k_whole, PySem.W.mg_of X G a_whole, ((fun_mk (st := s_whole) l_whole c_whole k_whole).binds (ps := ["actual", "expected"]) fun _ _ _ _ _ _ us hl => match us, hl with | [_, _], _ => rfl)⟩,
    edit := ⟨f_edit, _, fun_mk (st := s_edit) l_edit c_edit k_edit, PySem.W.mg_of X G a_edit, ((fun_mk (st := s_edit) l_edit c_edit k_edit).binds (ps := ["well", "page"]) fun _ _ _ _ _ _ us hl => match us, hl with | [_, _], _ => rfl)⟩,
    due := ⟨f_due, _, fun_mk (st := s_due) l_due c_due k_due, PySem.W.mg_of X G a_due, ((fun_mk (st := s_due) l_due c_due k_due).binds (ps := ["page"]) fun _ _ _ _ _ _ us hl => match us, hl with | [_], _ => rfl)⟩,
    near_part := ⟨f_near_part, _, fun_mk (st := s_near_part) l_near_part c_near_part k_near_part, PySem.W.mg_of X G a_near_part, ((fun_mk (st := s_near_part) l_near_part c_near_part k_near_part).binds (ps := ["well"]) fun _ _ _ _ _ _ us hl => match us, hl with | [_], _ => rfl)⟩,
    spoilt := ⟨f_spoilt, _, fun_mk (st := s_spoilt) l_spoilt c_spoilt k_spoilt, PySem.W.mg_of X G a_spoilt, ((fun_mk (st := s_spoilt) l_spoilt c_spoilt k_spoilt).binds (ps := ["well", "page"]) fun _ _ _ _ _ _ us hl => match us, hl with | [_, _], _ => rfl)⟩,
    tried := ⟨f_tried, _, fun_mk (st := s_tried) l_tried c_tried k_tried, PySem.W.mg_of X G a_tried, ((fun_mk (st := s_tried) l_tried c_tried k_tried).binds (ps := ["page"]) fun _ _ _ _ _ _ us hl => match us, hl with | [_], _ => rfl)⟩,
    classes := ⟨f_classes, _, fun_mk (st := s_classes) l_classes c_classes k_classes, PySem.W.mg_of X G a_classes, ((fun_mk (st := s_classes) l_classes c_classes k_classes).binds (ps := ["page"]) fun _ _ _ _ _ _ us hl => match us, hl with | [_], _ => rfl)⟩,
    right := ⟨f_right, _, fun_mk (st := s_right) l_right c_right k_right, PySem.W.mg_of X G a_right, ((fun_mk (st := s_right) l_right c_right k_right).binds (ps := ["page", "due"]) fun _ _ _ _ _ _ us hl => match us, hl with | [_, _], _ => rfl)⟩,
    law := ⟨f_law, _, fun_mk (st := s_law) l_law c_law k_law, PySem.W.mg_of X G a_law, ((fun_mk (st := s_law) l_law c_law k_law).binds (ps := ["script"]) fun _ _ _ _ _ _ us hl => match us, hl with | [_], _ => rfl)⟩,
    cl_Script := ⟨pg_Script, hd_Script, po_Script, sa_Script⟩,
    ic_Script := ⟨⟨pg_Script, hd_Script, po_Script, sa_Script⟩, ha_Script, cn, ctk, hm_Script⟩,
    mk_Script := ⟨mk_Script, a_Script_init, i_Script_init, kc_Script⟩,
    na_Script_kept_steps := n_Script_kept_steps,
    xf_TurnError := ⟨ga_TurnError, gg_TurnError, eb_TurnError, hd_TurnError⟩,
    xc_TurnError := ⟨ga_TurnError, gg_TurnError, eb_TurnError, hd_TurnError, ha_TurnError, cn, ctk, hm_TurnError⟩,
    kv_TurnError := kit_ve sv_TurnError,
    xf_NoStep := ⟨ga_NoStep, gg_NoStep, eb_NoStep, hd_NoStep⟩,
    xc_NoStep := ⟨ga_NoStep, gg_NoStep, eb_NoStep, hd_NoStep, ha_NoStep, cn, ctk, hm_NoStep⟩,
    kv_NoStep := kit_ve sv_NoStep,
    ox_NoStep := ⟨⟨_, _, _, _, _, _, _, _, _, _, _, _, _, _, _, xL_NoStep, by first | rfl | decide +kernel⟩, sa_NoStep, eb_NoStep, ty_NoStep, kc_NoStep⟩,
    nf_NoStep := nf_NoStep,
    tt_NoStep := tt_NoStep,
    xf_NoText := ⟨ga_NoText, gg_NoText, eb_NoText, hd_NoText⟩,
    xc_NoText := ⟨ga_NoText, gg_NoText, eb_NoText, hd_NoText, ha_NoText, cn, ctk, hm_NoText⟩,
    kv_NoText := kit_ve sv_NoText,
    ox_NoText := ⟨⟨_, _, _, _, _, _, _, _, _, _, _, _, _, _, _, xL_NoText, by first | rfl | decide +kernel⟩, sa_NoText, eb_NoText, ty_NoText, kc_NoText⟩,
    nf_NoText := nf_NoText,
    tt_NoText := tt_NoText,
    xf_NoDeed := ⟨ga_NoDeed, gg_NoDeed, eb_NoDeed, hd_NoDeed⟩,
    xc_NoDeed := ⟨ga_NoDeed, gg_NoDeed, eb_NoDeed, hd_NoDeed, ha_NoDeed, cn, ctk, hm_NoDeed⟩,
    kv_NoDeed := kit_ve sv_NoDeed,
    em_TurnError_TurnError := PySem.W.exm_ref eb_TurnError hd_TurnError ty_TurnError sb_TurnError_TurnError,
    ki_TurnError_TurnError := kit_yes hd_TurnError ty_TurnError sb_TurnError_TurnError,
    em_NoStep_TurnError := PySem.W.exm_ref eb_TurnError hd_TurnError ty_TurnError sb_NoStep_TurnError,
    ki_NoStep_TurnError := kit_yes hd_TurnError ty_TurnError sb_NoStep_TurnError,
    em_NoStep_NoStep := PySem.W.exm_ref eb_NoStep hd_NoStep ty_NoStep sb_NoStep_NoStep,
    ki_NoStep_NoStep := kit_yes hd_NoStep ty_NoStep sb_NoStep_NoStep,
    em_NoStep_NoText := PySem.W.exm_ref eb_NoText hd_NoText ty_NoText sb_NoStep_NoText,
    ki_NoStep_NoText := kit_no hd_NoText ty_NoText sb_NoStep_NoStep sb_NoStep_NoText,
    em_NoStep_NoDeed := PySem.W.exm_ref eb_NoDeed hd_NoDeed ty_NoDeed sb_NoStep_NoDeed,
    ki_NoStep_NoDeed := kit_no hd_NoDeed ty_NoDeed sb_NoStep_NoStep sb_NoStep_NoDeed,
    em_NoText_TurnError := PySem.W.exm_ref eb_TurnError hd_TurnError ty_TurnError sb_NoText_TurnError,
    ki_NoText_TurnError := kit_yes hd_TurnError ty_TurnError sb_NoText_TurnError,
    em_NoText_NoStep := PySem.W.exm_ref eb_NoStep hd_NoStep ty_NoStep sb_NoText_NoStep,
    ki_NoText_NoStep := kit_no hd_NoStep ty_NoStep sb_NoText_NoText sb_NoText_NoStep,
    em_NoText_NoText := PySem.W.exm_ref eb_NoText hd_NoText ty_NoText sb_NoText_NoText,
    ki_NoText_NoText := kit_yes hd_NoText ty_NoText sb_NoText_NoText,
    em_NoText_NoDeed := PySem.W.exm_ref eb_NoDeed hd_NoDeed ty_NoDeed sb_NoText_NoDeed,
    ki_NoText_NoDeed := kit_no hd_NoDeed ty_NoDeed sb_NoText_NoText sb_NoText_NoDeed,
    em_NoDeed_NoDeed := PySem.W.exm_ref eb_NoDeed hd_NoDeed ty_NoDeed sb_NoDeed_NoDeed,
    ki_NoDeed_NoDeed := kit_yes hd_NoDeed ty_NoDeed sb_NoDeed_NoDeed,
    a_STEPS := A_STEPS, g_STEPS := PySem.W.mg_of X G v_STEPS, d_STEPS := fun H => .tup (xs := [.ref A_STEPS_2, .ref A_STEPS_3, .ref A_STEPS_4, .ref A_STEPS_5, .ref A_STEPS_6, .ref A_STEPS_7, .ref A_STEPS_8, .ref A_STEPS_9, .ref A_STEPS_10, .ref A_STEPS_11, .ref A_STEPS_12, .ref A_STEPS_13]) (.inr ⟨_, _, _, w_STEPS_0, rfl, rfl, (by show 12 ≤ sizeLine; decide), (.cons rfl (.cons rfl (.cons rfl (.cons rfl (.cons rfl (.cons rfl (.cons rfl (.cons rfl (.cons rfl (.cons rfl (.cons rfl (.cons rfl .nil))))))))))))⟩) (.cons (.tup (xs := [(.str "make"), (.str "all")]) (.inr ⟨_, _, _, w_STEPS_45, rfl, rfl, (by show 2 ≤ sizeLine; decide), (.cons ⟨_, rfl⟩ (.cons ⟨_, rfl⟩ .nil))⟩) (.cons (.str _) (.cons (.str _) .nil))) (.cons (.tup (xs := [(.str "make"), (.str "standing")]) (.inr ⟨_, _, _, w_STEPS_42, rfl, rfl, (by show 2 ≤ sizeLine; decide), (.cons ⟨_, rfl⟩ (.cons ⟨_, rfl⟩ .nil))⟩) (.cons (.str _) (.cons (.str _) .nil))) (.cons (.tup (xs := [(.str "start"), (.str "new")]) (.inr ⟨_, _, _, w_STEPS_39, rfl, rfl, (by show 2 ≤ sizeLine; decide), (.cons ⟨_, rfl⟩ (.cons ⟨_, rfl⟩ .nil))⟩) (.cons (.str _) (.cons (.str _) .nil))) (.cons (.tup (xs := [(.str "start"), (.str "all")]) (.inr ⟨_, _, _, w_STEPS_36, rfl, rfl, (by show 2 ≤ sizeLine; decide), (.cons ⟨_, rfl⟩ (.cons ⟨_, rfl⟩ .nil))⟩) (.cons (.str _) (.cons (.str _) .nil))) (.cons (.tup (xs := [(.str "start"), (.str "free")]) (.inr ⟨_, _, _, w_STEPS_33, rfl, rfl, (by show 2 ≤ sizeLine; decide), (.cons ⟨_, rfl⟩ (.cons ⟨_, rfl⟩ .nil))⟩) (.cons (.str _) (.cons (.str _) .nil))) (.cons (.tup (xs := [(.str "label"), (.str "new")]) (.inr ⟨_, _, _, w_STEPS_30, rfl, rfl, (by show 2 ≤ sizeLine; decide), (.cons ⟨_, rfl⟩ (.cons ⟨_, rfl⟩ .nil))⟩) (.cons (.str _) (.cons (.str _) .nil))) (.cons (.tup (xs := [(.str "label"), (.str "all")]) (.inr ⟨_, _, _, w_STEPS_27, rfl, rfl, (by show 2 ≤ sizeLine; decide), (.cons ⟨_, rfl⟩ (.cons ⟨_, rfl⟩ .nil))⟩) (.cons (.str _) (.cons (.str _) .nil))) (.cons (.tup (xs := [(.str "label"), (.str "free")]) (.inr ⟨_, _, _, w_STEPS_24, rfl, rfl, (by show 2 ≤ sizeLine; decide), (.cons ⟨_, rfl⟩ (.cons ⟨_, rfl⟩ .nil))⟩) (.cons (.str _) (.cons (.str _) .nil))) (.cons (.tup (xs := [(.str "tie"), (.str "new")]) (.inr ⟨_, _, _, w_STEPS_21, rfl, rfl, (by show 2 ≤ sizeLine; decide), (.cons ⟨_, rfl⟩ (.cons ⟨_, rfl⟩ .nil))⟩) (.cons (.str _) (.cons (.str _) .nil))) (.cons (.tup (xs := [(.str "tie"), (.str "all")]) (.inr ⟨_, _, _, w_STEPS_18, rfl, rfl, (by show 2 ≤ sizeLine; decide), (.cons ⟨_, rfl⟩ (.cons ⟨_, rfl⟩ .nil))⟩) (.cons (.str _) (.cons (.str _) .nil))) (.cons (.tup (xs := [(.str "tie"), (.str "free")]) (.inr ⟨_, _, _, w_STEPS_15, rfl, rfl, (by show 2 ≤ sizeLine; decide), (.cons ⟨_, rfl⟩ (.cons ⟨_, rfl⟩ .nil))⟩) (.cons (.str _) (.cons (.str _) .nil))) (.cons (.tup (xs := [(.str "drop")]) (.inr ⟨_, _, _, w_STEPS_13, rfl, rfl, (by show 1 ≤ sizeLine; decide), (.cons ⟨_, rfl⟩ .nil)⟩) (.cons (.str _) .nil)) .nil)))))))))))),
    t_MOST_STEPS := tk_MOST_STEPS, g_MOST_STEPS := PySem.W.mg_of X G v_MOST_STEPS,
    t_NOTHING := tk_NOTHING, g_NOTHING := PySem.W.mg_of X G v_NOTHING,
    t_BETWEEN := tk_BETWEEN, g_BETWEEN := PySem.W.mg_of X G v_BETWEEN,
    b_len := PySem.W.mg_none_of X G z_len,
    b_isinstance := PySem.W.mg_none_of X G z_isinstance,
    b_int := PySem.W.mg_none_of X G z_int,
    b_bool := PySem.W.mg_none_of X G z_bool,
    b_str := PySem.W.mg_none_of X G z_str,
    b_tuple := PySem.W.mg_none_of X G z_tuple,
    b_list := PySem.W.mg_none_of X G z_list,
    b_all := PySem.W.mg_none_of X G z_all,
    b_max := PySem.W.mg_none_of X G z_max,
    b_range := PySem.W.mg_none_of X G z_range,
    b_enumerate := PySem.W.mg_none_of X G z_enumerate,
    b_ValueError := PySem.W.mg_none_of X G z_ValueError,
    kb_read_script_0 := ⟨fun s us ws _ h1 h2 => match us, ws, h1, h2 with | [], [_], _, _ => .of_eq rfl, fun r1 r2 => r1.append r2⟩ }, fun s v => .of_eq rfl⟩
theorem all_mk {l : PySem.W.OpenLaw} {w : World} {K : PySem.W.Frag} {mg : Str → Option Value} {fa : Addr} (hfa : mg "law" = some (.ref fa)) (h : ∃ T : Tx K mg, ∀ (s : Shared) (v : Value), BindsTo s T.law.fd ⟨[v], []⟩ [("script", v)]) :
    ∃ fd : FuncData, (∀ (s : Shared) (v : Value), BindsTo s fd ⟨[v], []⟩ [("script", v)]) ∧ ∀ base : Heap, K.In base → base.Ns mainGlobals mg → FnOk l.prog w K mg base CX0 12 fa fd ["script"] (spLaw K) := by
  obtain ⟨T, hb⟩ := h
  have e := hfa.symm.trans T.law.g
  cases e
  exact ⟨T.law.fd, hb, fun base _ _ => ok_law T⟩
theorem walk {l : PySem.W.OpenLaw} {q : Program} {loose : List Str} {XP : (Str → Option Value) → Heap → Prop} {YP : World → Heap → Prop} {d : DefRec} {K : Params → PySem.W.Frag} (hn : l.most = some 63) (hdf : d.params.defaults = [])
    (hY : ∀ (w : World) (h : Heap), YP w h → (K w.params).In h)
    (F : ∀ (w : World) (mg : Str → Option Value) (fa : Addr) (h : Heap), (K w.params).In h → h.Ns mainGlobals mg → mg d.name = some (.ref fa) →
      ∃ fd : FuncData, (∀ (s : Shared) (u : Value), BindsTo s fd ⟨[u], []⟩ [("script", u)]) ∧ ∀ base : Heap, (K w.params).In base → base.Ns mainGlobals mg → FnOk l.prog w (K w.params) mg base CX0 12 fa fd ["script"] (spLaw (K w.params))) :
    PySem.W.WalkO q loose XP YP l.row.toRowW d [] (fun f vs => PySem.call f vs) :=
  L2.walk_of (n := 63) (k := 12) (x := "script") (CX := fun _ => CX0) (sp := fun w => spLaw (K w.params)) hn (by decide) hdf ⟨rfl, by decide, by decide⟩ hY F (fun _ _ a ns hl _ hS => ⟨a, ns, rfl, hS, hl, fun _ => rfl⟩) fun _ _ _ _ _ z => z
end Y
open PySem PySem.W PyProof.Rows
set_option maxRecDepth 100000 in
set_option maxHeartbeats 0 in
theorem PySem.Challenge.cw_yearturned_k11_script_texts_refused_holds : PySem.Challenge.rw_yearturned_k11_script_texts_refused.Holds := by
  w_on; o_law; k_head; (case hw => w_witness2)
  k_fill
  refine Y.walk (l := PySem.Challenge.rw_yearturned_k11_script_texts_refused) rfl rfl (fun w h Y => PySem.W.kIn_of Y) ?F
  case F =>
    intro w mg fa h KX G hmg
    refine Y.all_mk hmg ?_
    refine' Y.tx_of KX G ?cn ?ctk ?nC_Script ?nC_TurnError ?nC_NoStep ?nC_NoText ?nC_NoDeed ?a_is_whole ?l_is_whole ?c_is_whole ?k_is_whole ?a_is_step ?l_is_step ?c_is_step ?k_is_step ?a_Script_init ?i_Script_init ?l_Script_init ?c_Script_init ?k_Script_init ?a_Script_steps ?i_Script_steps ?l_Script_steps ?c_Script_steps ?k_Script_steps ?a_Script_len ?i_Script_len ?l_Script_len ?c_Script_len ?k_Script_len ?a_Script_has ?i_Script_has ?l_Script_has ?c_Script_has ?k_Script_has ?a_read_script ?l_read_script ?c_read_script ?k_read_script ?a_NoStep_init ?i_NoStep_init ?l_NoStep_init ?c_NoStep_init ?k_NoStep_init ?a_NoText_init ?i_NoText_init ?l_NoText_init ?c_NoText_init ?k_NoText_init ?a_well ?l_well ?c_well ?k_well ?a_draw ?l_draw ?c_draw ?k_draw ?a_menu ?l_menu ?c_menu ?k_menu ?a_row ?l_row ?c_row ?k_row ?a_same ?l_same ?c_same ?k_same ?a_script_text ?l_script_text ?c_script_text ?k_script_text ?a_whole ?l_whole ?c_whole ?k_whole ?a_edit ?l_edit ?c_edit ?k_edit ?a_due ?l_due ?c_due ?k_due ?a_near_part ?l_near_part ?c_near_part ?k_near_part ?a_spoilt ?l_spoilt ?c_spoilt ?k_spoilt ?a_tried ?l_tried ?c_tried ?k_tried ?a_classes ?l_classes ?c_classes ?k_classes ?a_right ?l_right ?c_right ?k_right ?a_law ?l_law ?c_law ?k_law ?pg_Script ?hd_Script ?po_Script ?sa_Script ?mk_Script ?kc_Script ?ha_Script ?hm_Script ?n_Script_kept_steps ?eb_TurnError ?ty_TurnError ?hd_TurnError ?kc_TurnError ?ga_TurnError ?gg_TurnError ?ha_TurnError ?hm_TurnError ?sv_TurnError ?eb_NoStep ?ty_NoStep ?hd_NoStep ?kc_NoStep ?ga_NoStep ?gg_NoStep ?ha_NoStep ?hm_NoStep ?sv_NoStep ?xL_NoStep ?sa_NoStep ?nf_NoStep ?tt_NoStep ?eb_NoText ?ty_NoText ?hd_NoText ?kc_NoText ?ga_NoText ?gg_NoText ?ha_NoText ?hm_NoText ?sv_NoText ?xL_NoText ?sa_NoText ?nf_NoText ?tt_NoText ?eb_NoDeed ?ty_NoDeed ?hd_NoDeed ?kc_NoDeed ?ga_NoDeed ?gg_NoDeed ?ha_NoDeed ?hm_NoDeed ?sv_NoDeed ?sb_TurnError_TurnError ?sb_NoStep_TurnError ?sb_NoStep_NoStep ?sb_NoStep_NoText ?sb_NoStep_NoDeed ?sb_NoText_TurnError ?sb_NoText_NoStep ?sb_NoText_NoText ?sb_NoText_NoDeed ?sb_NoDeed_NoDeed ?v_STEPS ?w_STEPS_0 ?w_STEPS_13 ?w_STEPS_15 ?w_STEPS_18 ?w_STEPS_21 ?w_STEPS_24 ?w_STEPS_27 ?w_STEPS_30 ?w_STEPS_33 ?w_STEPS_36 ?w_STEPS_39 ?w_STEPS_42 ?w_STEPS_45 ?v_MOST_STEPS ?v_NOTHING ?v_BETWEEN ?z_len ?z_isinstance ?z_int ?z_bool ?z_str ?z_tuple ?z_list ?z_all ?z_max ?z_range ?z_enumerate ?z_ValueError
    (case cn => k_is)
    (case ctk => k_is)
    (case nC_Script => k_is)
    (case nC_TurnError => k_is)
    (case nC_NoStep => k_is)
    (case nC_NoText => k_is)
    (case nC_NoDeed => k_is)
    (case a_is_whole => k_is)
    (case l_is_whole => k_is)
    (case c_is_whole => k_is)
    (case k_is_whole => k_is)
    (case a_is_step => k_is)
    (case l_is_step => k_is)
    (case c_is_step => k_is)
    (case k_is_step => k_is)
    (case a_Script_init => k_is)
    (case i_Script_init => k_is)
    (case l_Script_init => k_is)
    (case c_Script_init => k_is)
    (case k_Script_init => k_is)
    (case a_Script_steps => k_is)
    (case i_Script_steps => k_is)
    (case l_Script_steps => k_is)
    (case c_Script_steps => k_is)
    (case k_Script_steps => k_is)
    (case a_Script_len => k_is)
    (case i_Script_len => k_is)
    (case l_Script_len => k_is)
    (case c_Script_len => k_is)
    (case k_Script_len => k_is)
    (case a_Script_has => k_is)
    (case i_Script_has => k_is)
    (case l_Script_has => k_is)
    (case c_Script_has => k_is)
    (case k_Script_has => k_is)
    (case a_read_script => k_is)
    (case l_read_script => k_is)
    (case c_read_script => k_is)
    (case k_read_script => k_is)
    (case a_NoStep_init => k_is)
    (case i_NoStep_init => k_is)
    (case l_NoStep_init => k_is)
    (case c_NoStep_init => k_is)
    (case k_NoStep_init => k_is)
    (case a_NoText_init => k_is)
    (case i_NoText_init => k_is)
    (case l_NoText_init => k_is)
    (case c_NoText_init => k_is)
    (case k_NoText_init => k_is)
    (case a_well => k_is)
    (case l_well => k_is)
    (case c_well => k_is)
    (case k_well => k_is)
    (case a_draw => k_is)
    (case l_draw => k_is)
    (case c_draw => k_is)
    (case k_draw => k_is)
    (case a_menu => k_is)
    (case l_menu => k_is)
    (case c_menu => k_is)
    (case k_menu => k_is)
    (case a_row => k_is)
    (case l_row => k_is)
    (case c_row => k_is)
    (case k_row => k_is)
    (case a_same => k_is)
    (case l_same => k_is)
    (case c_same => k_is)
    (case k_same => k_is)
    (case a_script_text => k_is)
    (case l_script_text => k_is)
    (case c_script_text => k_is)
    (case k_script_text => k_is)
    (case a_whole => k_is)
    (case l_whole => k_is)
    (case c_whole => k_is)
    (case k_whole => k_is)
    (case a_edit => k_is)
    (case l_edit => k_is)
    (case c_edit => k_is)
    (case k_edit => k_is)
    (case a_due => k_is)
    (case l_due => k_is)
    (case c_due => k_is)
    (case k_due => k_is)
    (case a_near_part => k_is)
    (case l_near_part => k_is)
    (case c_near_part => k_is)
    (case k_near_part => k_is)
    (case a_spoilt => k_is)
    (case l_spoilt => k_is)
    (case c_spoilt => k_is)
    (case k_spoilt => k_is)
    (case a_tried => k_is)
    (case l_tried => k_is)
    (case c_tried => k_is)
    (case k_tried => k_is)
    (case a_classes => k_is)
    (case l_classes => k_is)
    (case c_classes => k_is)
    (case k_classes => k_is)
    (case a_right => k_is)
    (case l_right => k_is)
    (case c_right => k_is)
    (case k_right => k_is)
    (case a_law => k_is)
    (case l_law => k_is)
    (case c_law => k_is)
    (case k_law => k_is)
    (case pg_Script => k_is)
    (case hd_Script => k_is)
    (case po_Script => k_is)
    (case sa_Script => k_is)
    (case mk_Script => k_is)
    (case kc_Script => k_is)
    (case ha_Script => k_is)
    (case hm_Script => k_is)
    (case n_Script_kept_steps => k_is)
    (case eb_TurnError => k_is)
    (case ty_TurnError => k_is)
    (case hd_TurnError => k_is)
    (case kc_TurnError => k_is)
    (case ga_TurnError => k_is)
    (case gg_TurnError => k_is)
    (case ha_TurnError => k_is)
    (case hm_TurnError => k_is)
    (case sv_TurnError => k_is)
    (case eb_NoStep => k_is)
    (case ty_NoStep => k_is)
    (case hd_NoStep => k_is)
    (case kc_NoStep => k_is)
    (case ga_NoStep => k_is)
    (case gg_NoStep => k_is)
    (case ha_NoStep => k_is)
    (case hm_NoStep => k_is)
    (case sv_NoStep => k_is)
    (case xL_NoStep => k_is)
    (case sa_NoStep => k_is)
    (case nf_NoStep => k_is)
    (case tt_NoStep => k_is)
    (case eb_NoText => k_is)
    (case ty_NoText => k_is)
    (case hd_NoText => k_is)
    (case kc_NoText => k_is)
    (case ga_NoText => k_is)
    (case gg_NoText => k_is)
    (case ha_NoText => k_is)
    (case hm_NoText => k_is)
    (case sv_NoText => k_is)
    (case xL_NoText => k_is)
    (case sa_NoText => k_is)
    (case nf_NoText => k_is)
    (case tt_NoText => k_is)
    (case eb_NoDeed => k_is)
    (case ty_NoDeed => k_is)
    (case hd_NoDeed => k_is)
    (case kc_NoDeed => k_is)
    (case ga_NoDeed => k_is)
    (case gg_NoDeed => k_is)
    (case ha_NoDeed => k_is)
    (case hm_NoDeed => k_is)
    (case sv_NoDeed => k_is)
    (case sb_TurnError_TurnError => k_is)
    (case sb_NoStep_TurnError => k_is)
    (case sb_NoStep_NoStep => k_is)
    (case sb_NoStep_NoText => k_is)
    (case sb_NoStep_NoDeed => k_is)
    (case sb_NoText_TurnError => k_is)
    (case sb_NoText_NoStep => k_is)
    (case sb_NoText_NoText => k_is)
    (case sb_NoText_NoDeed => k_is)
    (case sb_NoDeed_NoDeed => k_is)
    (case v_STEPS => k_is)
    (case w_STEPS_0 => k_is)
    (case w_STEPS_13 => k_is)
    (case w_STEPS_15 => k_is)
    (case w_STEPS_18 => k_is)
    (case w_STEPS_21 => k_is)
    (case w_STEPS_24 => k_is)
    (case w_STEPS_27 => k_is)
    (case w_STEPS_30 => k_is)
    (case w_STEPS_33 => k_is)
    (case w_STEPS_36 => k_is)
    (case w_STEPS_39 => k_is)
    (case w_STEPS_42 => k_is)
    (case w_STEPS_45 => k_is)
    (case v_MOST_STEPS => k_is)
    (case v_NOTHING => k_is)
    (case v_BETWEEN => k_is)
    (case z_len => k_is)
    (case z_isinstance => k_is)
    (case z_int => k_is)
    (case z_bool => k_is)
    (case z_str => k_is)
    (case z_tuple => k_is)
    (case z_list => k_is)
    (case z_all => k_is)
    (case z_max => k_is)
    (case z_range => k_is)
    (case z_enumerate => k_is)
    (case z_ValueError => k_is)
