import PyProof.Rows.All
import Wide.All
import OpenK.AllK
import Wide.FinOn
import HandS.ForMost
import HandS.ForExc
import HandS.FStr
import HandS.Wide
import HandS.Deep
import HandS.OwnEq
import HandS.ClsMeth
import HandS.CallRecv
import HandS.CallLocal
import HandS.IsInst
import HandS.EndBits
import HandS.RaiseMore
import HandS.Evl
import PySem.Challenge.RW_heirsback_k31_leaves_and_requests
set_option Elab.async false
set_option linter.all false
set_option maxRecDepth 100000
set_option maxHeartbeats 4000000
/-! Rules beside the hand layer: own special methods by the built-in's name, static methods, classes held in a name. -/
namespace Hk
open PySem PySem.Spec PyProof.Rows L2

/-! ### a def run somewhere below the running body -/
section
variable {X : Cx} {CX : CXT} {n : Nat} {f C : Addr} {fd : FuncData} {ps : List Str} {sp : Sp} {E : XK} {pins : List (Addr × Obj)} {σ : L2.St} {H : Hp} {s : Shared}
theorem run_sub {A : Around} {Q : VK} {us : List Value} {vs : List V} (sb : Sub X n A) (F : FnOk X.prog X.w X.K X.mg X.base CX n f fd ps sp) (hb : Binds X.K fd ps []) (hx : Passes CX X E)
    (I : Inv X pins σ H s) (r : Vals vs us) (h : sp vs H Q E) : wpAny (model X.prog X.w) A (call (.ref f) us) (EP X pins σ Q) X.xe s := by
  have hl : us.length = ps.length := by rw [← r.length]; exact F.len _ _ _ _ h
  have e0 : Env0 X.prog X.w X.K X.mg X.base A X.stack s H := by
    have e := I.env0
    exact ⟨by rw [sb.fr]; exact e.frames, e.mod, e.bs, e.bsz, e.funs, e.frf, e.hok, e.bare⟩
  refine wpAny_call (codeAny_mono (F.run A X.stack s H ⟨us, []⟩ us vs Q E sb.room e0 (by
    have := hb s us I.kIn (by simpa using hl)
    simpa using this) r h) fun r s' hq => ?_)
  cases r with
  | error e => exact hx pins σ H s e s' I hq
  | ok fl =>
    cases fl with
    | ret u => exact I.after hq
    | next => exact False.elim hq
    | brk => exact False.elim hq
    | cont => exact False.elim hq
end

/-- the class at C has the def at f for this name, which keeps sp -/
structure Own (X : Cx) (C : Addr) (name : Str) (n : Nat) (sp : Sp) (E : XK) : Prop where
  ex : ∃ (f : Addr) (fd : FuncData) (ps : List Str) (CX : CXT), FnOk X.prog X.w X.K X.mg X.base CX n f fd ps sp ∧ PySem.W.findIn X.K (.ref C) name = some (some (.ref f)) ∧ PySem.W.isFn X.K (.ref f) = true ∧ Binds X.K fd ps [] ∧ Passes CX X E

section
variable {X : Cx} {n : Nat} {C : Addr} {sp : Sp} {E : XK}
/-- len(o) by __len__ -/
def rLenO (C : Addr) (sp : Sp) (E : XK) : List V → Hp → VK → Prop := fun xs H Q => ∃ a dx fs, xs = [.ref a] ∧ H a = some (.ins C dx fs) ∧ sp [.ref a] H (fun v H' => ∃ k : Int, v = .int k ∧ (0 ≤ k ∧ k < 2 ^ 63) ∧ Q (.int k) H') E
theorem call_lenO (G : Own X C "__len__" n sp E) (hr : Room (n + 1) X.A) : CallR X (.builtin "len") (rLenO C sp E) := by
  obtain ⟨f, fd, ps, CX, F, hs, hf, hb, hx⟩ := G.ex
  intro pins s σ H xs us Q I r h
  obtain ⟨a, dx, fs, rfl, ha, q⟩ := h
  cases r with
  | cons r1 r2 =>
    cases r2
    cases r1
    obtain ⟨mA, J, _⟩ := ins_get I.hok ha
    obtain ⟨od, J, _⟩ := J.look
    obtain ⟨m, hF⟩ := I.fr
    refine PySem.W.len_K hF I.ok.mod.kin J hs hf ?_
    have sb : Sub X n X.A.in1 := ⟨hr.in1, rfl⟩
    refine thn (run_sub (vs := [V.ref a]) sb F hb hx I (.cons rfl .nil) q) fun u s1 hh => ?_
    obtain ⟨v, H1, I1, rv, k, rfl, hk, q1⟩ := hh
    obtain ⟨t, rfl⟩ := rv
    exact ⟨hk, .int k, H1, I1.tok _, ⟨_, rfl⟩, q1⟩
/-- str(o) by __str__ -/
def rStrO (C : Addr) (sp : Sp) (E : XK) : List V → Hp → VK → Prop := fun xs H Q => ∃ a dx fs, xs = [.ref a] ∧ H a = some (.ins C dx fs) ∧ sp [.ref a] H (fun v H' => ∃ k : Str, v = .str k ∧ Q (.str k) H') E
theorem call_strO (G : Own X C "__str__" n sp E) (hr : Room (n + 2) X.A) : CallR X (.type "str") (rStrO C sp E) := by
  obtain ⟨f, fd, ps, CX, F, hs, hf, hb, hx⟩ := G.ex
  intro pins s σ H xs us Q I r h
  obtain ⟨a, dx, fs, rfl, ha, q⟩ := h
  cases r with
  | cons r1 r2 =>
    cases r2
    cases r1
    obtain ⟨mA, J, _⟩ := ins_get I.hok ha
    obtain ⟨od, J, _⟩ := J.look
    have sb : Sub X n X.A.in1.in1 := ⟨hr.in1.in1, rfl⟩
    refine PySem.W.kso_call sb.room.units0 I.kIn J hs hf ?_
    refine thn (run_sub (vs := [V.ref a]) sb F hb hx I (.cons rfl .nil) q) fun u s1 hh => ?_
    obtain ⟨v, H1, I1, rv, k, rfl, q1⟩ := hh
    obtain ⟨t, rfl⟩ := rv
    exact ⟨.str k, H1, I1, ⟨_, rfl⟩, q1⟩
/-- repr(o) by __repr__ -/
def rReprO (C : Addr) (sp : Sp) (E : XK) : List V → Hp → VK → Prop := rStrO C sp E
theorem call_reprO (G : Own X C "__repr__" n sp E) (hr : Room (n + 1) X.A) : CallR X (.builtin "repr") (rReprO C sp E) := by
  obtain ⟨f, fd, ps, CX, F, hs, hf, hb, hx⟩ := G.ex
  intro pins s σ H xs us Q I r h
  obtain ⟨a, dx, fs, rfl, ha, q⟩ := h
  cases r with
  | cons r1 r2 =>
    cases r2
    cases r1
    obtain ⟨mA, J, _⟩ := ins_get I.hok ha
    obtain ⟨od, J, _⟩ := J.look
    obtain ⟨m, hF⟩ := I.fr
    have sb : Sub X n X.A.in1 := ⟨hr.in1, rfl⟩
    refine PySem.W.repr_K sb.room.units0 hF I.ok.mod.kin J hs hf ?_
    refine thn (run_sub (vs := [V.ref a]) sb F hb hx I (.cons rfl .nil) q) fun u s1 hh => ?_
    obtain ⟨v, H1, I1, rv, k, rfl, q1⟩ := hh
    obtain ⟨t, rfl⟩ := rv
    exact ⟨.str k, H1, I1, ⟨_, rfl⟩, q1⟩
/-- the truth of o by __bool__ -/
def rTruO (C : Addr) (sp : Sp) (E : XK) : V → Hp → (Bool → Hp → Prop) → Prop := fun x H Q => ∃ a dx fs, x = .ref a ∧ H a = some (.ins C dx fs) ∧ sp [.ref a] H (fun v H' => ∃ b : Bool, v = .bl b ∧ Q b H') E
theorem tru_O (G : Own X C "__bool__" n sp E) (hr : Room n X.A) : TruR X (rTruO C sp E) := by
  obtain ⟨f, fd, ps, CX, F, hs, hf, hb, hx⟩ := G.ex
  intro pins s σ H x u Q I r h
  obtain ⟨a, dx, fs, rfl, ha, q⟩ := h
  cases r
  obtain ⟨mA, J, _⟩ := ins_get I.hok ha
  obtain ⟨od, J, _⟩ := J.look
  obtain ⟨m, hF⟩ := I.fr
  have sb : Sub X n X.A := ⟨hr, rfl⟩
  refine PySem.W.truthy_K hF I.ok.mod.kin J hs hf ?_
  refine thn (run_sub (vs := [V.ref a]) sb F hb hx I (.cons rfl .nil) q) fun u s1 hh => ?_
  obtain ⟨v, H1, I1, rv, k, rfl, q1⟩ := hh
  cases rv
  exact ⟨H1, I1, q1⟩

/-! ### == and != by __eq__ -/
/-- the type of the other value: an instance of the class itself, or something that is not below it -/
def OtherTy (X : Cx) (H : Hp) (C : Addr) (y : V) : Prop := (∃ b dx fs, y = .ref b ∧ H b = some (.ins C dx fs)) ∨ ∃ t, TyOf X.K H y t ∧ PySem.W.notFirst X.K C t = true
def rEqO (X : Cx) (C : Addr) (sp : Sp) (E : XK) : R2 := fun x y H Q => ∃ a dx fs, x = .ref a ∧ H a = some (.ins C dx fs) ∧ OtherTy X H C y ∧ sp [.ref a, y] H (fun v H' => ∃ b : Bool, v = .bl b ∧ Q (.bl b) H') E
def rNeO (X : Cx) (C : Addr) (sp : Sp) (E : XK) : R2 := fun x y H Q => ∃ a dx fs, x = .ref a ∧ H a = some (.ins C dx fs) ∧ OtherTy X H C y ∧ sp [.ref a, y] H (fun v H' => ∃ b : Bool, v = .bl b ∧ Q (.bl (!b)) H') E
theorem other_looks {pins : List (Addr × Obj)} {σ : L2.St} {H : Hp} {s : Shared} {y : V} {u : Value} (I : Inv X pins σ H s) (ry : RelV y u) (h : OtherTy X H C y) : ∃ t, PySem.W.Looks (model X.prog X.w) s.heap (typeOf u) t ∧ PySem.W.notFirst X.K C t = true := by
  rcases h with ⟨b, dx, fs, rfl, hb⟩ | ⟨t, ty, hn⟩
  · cases ry
    obtain ⟨mA, J, _⟩ := ins_get I.hok hb
    obtain ⟨od, J, _⟩ := J.look
    exact ⟨.ref C, J.type, by simp [PySem.W.notFirst]⟩
  · refine ⟨t, ?_, hn⟩
    cases ty with
    | non => cases (show u = Value.none from ry); exact .of_pure rfl
    | bl y => cases (show u = Value.bool y from ry); exact .of_pure rfl
    | int i => obtain ⟨t, rfl⟩ := (show ∃ t, u = Value.int i t from ry); exact .of_pure rfl
    | str x => obtain ⟨t, rfl⟩ := (show ∃ t, u = Value.str x t from ry); exact .of_pure rfl
    | flt x => obtain ⟨t, rfl⟩ := (show ∃ t, u = Value.float x t from ry); exact .of_pure rfl
    | lst e =>
      cases ry
      obtain ⟨_, its, n, _, e'⟩ := I.hok _ _ e
      exact (PySem.W.Looks.ld e').andThen .now
    | frz e =>
      cases ry
      obtain ⟨eo, _, its, n, _, e'⟩ := I.hok _ _ e
      exact (PySem.W.Looks.ld e').andThen .now
    | tup e =>
      cases ry
      obtain ⟨_, its, _, e'⟩ := I.hok _ _ e
      obtain ⟨o, ho, hc, _⟩ := e'
      exact hc ▸ (PySem.W.Looks.ld ho).andThen .now
    | dK e =>
      cases ry
      obtain ⟨_, _, vs, _, o, es, ep, ho, hx, _⟩ := I.hok _ _ e
      exact hx.1 ▸ (PySem.W.Looks.ld ho).andThen .now
    | dT e =>
      cases ry
      obtain ⟨_, _, xs, _, o, es, ep, ho, hx, _⟩ := I.hok _ _ e
      exact hx.1 ▸ (PySem.W.Looks.ld ho).andThen .now
    | ins e cl ha hg htk hm =>
      cases ry
      obtain ⟨mA, J, _⟩ := ins_get I.hok e
      obtain ⟨od, J, _⟩ := J.look
      exact J.type
theorem op_eqO (G : Own X C "__eq__" n sp E) (hr : Room n X.A) : OpR X (compareOp .Eq) (rEqO X C sp E) := by
  obtain ⟨f, fd, ps, CX, F, hs, hf, hb, hx⟩ := G.ex
  intro pins s σ H x y v u Q I rx ry h
  obtain ⟨a, dx, fs, rfl, ha, ho, q⟩ := h
  cases rx
  obtain ⟨t, ht, hn⟩ := other_looks I ry ho
  obtain ⟨mA, J, _⟩ := ins_get I.hok ha
  obtain ⟨od, J, _⟩ := J.look
  obtain ⟨m, hF⟩ := I.fr
  have sb : Sub X n X.A := ⟨hr, rfl⟩
  show wpAny (model X.prog X.w) X.A (richCompare .Eq (.ref a) u) (EP X pins σ Q) X.xe s
  refine PySem.W.cmp_K (op := .Eq) sb.room.units0 hF I.ok.mod.kin J ht hn hs hf ?_
  refine thn (run_sub (vs := [V.ref a, y]) sb F hb hx I (.cons rfl (.cons ry .nil)) q) fun w1 s1 hh => ?_
  obtain ⟨z, H1, I1, rv, b, rfl, q1⟩ := hh
  cases rv
  exact ⟨.bl b, H1, I1, rfl, q1⟩

theorem ifBound_B {M : Model} {A : Around} {E : Value → Shared → Prop} {s : Shared} {K : PySem.W.Frag} {x C : Addr} {ox : Obj} {od : Option Obj} {name : Str} {id : String} {args : List Value} {Q : Option Value → Shared → Prop} (X : K.In s.heap) (I : PySem.W.InstAt s.heap x ox C od) (hs : PySem.W.findIn K (.ref C) name = some (some (.builtin id)))
    (hb : ∀ self, bindSpecial (.builtin id) self = pure (.builtin id, [self])) (h : wpAny M A (call (.builtin id) (.ref x :: args)) (fun v => Q (some v)) E s) : wpAny M A (callSpecialIfBound? (.ref x) name args) Q E s := by
  simp only [callSpecialIfBound?, bindSpecialIfBound?]
  refine wpAny_holding (wpAny_bind (wpAny_bind (wpAny_bind (I.type.here ((PySem.W.looks_findIn X hs).here ?_)))))
  refine wpAny_bind (wpAny_askSetting (wpAny_ite ?_))
  have fin : wpAny M A (call (.builtin id) ([.ref x] ++ args) >>= fun v => pure (some v)) Q E s := wpAny_bind (wpAny_mono h (fun v s' h' => wpAny_pure h') fun _ _ h' => h')
  split
  · exact wpAny_bind ((PySem.W.Looks.of_pure (hb _)).here (wpAny_pure (by exact fin)))
  · exact wpAny_tryCatch (wpAny_bind ((PySem.W.Looks.of_pure (hb _)).here (wpAny_pure (by exact fin))))
open Builtin in
theorem ne_K {prog : Program} {w : World} {A : Around} {E : Value → Shared → Prop} {s : Shared} {K : PySem.W.Frag} {x C f : Addr} {ox : Obj} {od : Option Obj} {b tb : Value} {Q : Value → Shared → Prop} (hu : A.units < cLine) (hu1 : A.in1.units < cLine) (X : K.In s.heap) (I : PySem.W.InstAt s.heap x ox C od)
    (hb : PySem.W.Looks (model prog w) s.heap (typeOf b) tb) (hn : PySem.W.notFirst K C tb = true) (hne : PySem.W.findIn K (.ref C) "__ne__" = some (some (.builtin "object.__ne__"))) (hm : PySem.W.mroIn K C (.type "object") = some true)
    (hs : PySem.W.findIn K (.ref C) "__eq__" = some (some (.ref f))) (hf : PySem.W.isFn K (.ref f) = true)
    (h : wpAny (model prog w) A.in1 (call (.ref f) [.ref x, b]) (fun v s' => ∃ r : Bool, v = .bool r ∧ Q (.bool (!r)) s') E s) : wpAny (model prog w) A (richCompare .NotEq (.ref x) b) Q E s := by
  have one : wpAny (model prog w) A (tryCompare (.ref x) "__ne__" b) (fun r s' => ∃ v, r = some v ∧ Q v s') E s := by
    unfold tryCompare
    refine wpAny_bind (ifBound_B X I hne PySem.F.slot_object_ne.bind ?_)
    refine wpAny_call (codeAny_call_builtin PySem.F.slot_object_ne.plain PySem.F.cmpEntry_ne (PySem.W.check_slot (i := "object.__ne__") (owner := "object") (n := "__ne__") (by decide +kernel) (by decide +kernel) (I.type.andThen (PySem.W.looks_mroIn X hm)) (PySem.F.cmpArgs_ne _ _) ?_))
    unfold Builtin.«object.__ne__»
    refine wpAny_bind (m := slotArgs "__ne__" 1 _) (wpAny_pure ?_)
    refine wpAny_bind (m := cRoomFor _ _) (wpAny_cRoomFor hu1 ?_)
    refine wpAny_bind (m := callSpecialIfBound? (.ref x) (Str.ofString "__eq__") _) (PySem.W.ifBound_K X I hs hf (wpAny_mono h (fun r s' hr => ?_) fun _ _ y => y))
    obtain ⟨r, rfl, hq⟩ := hr
    refine wpAny_bind (wpAny_truthy_bool ?_)
    exact wpAny_pure (wpAny_pure ⟨_, rfl, hq⟩)
  unfold richCompare
  simp only [PySem.oneThing_ref]
  refine wpAny_holding (wpAny_bind (wpAny_cRoomFor hu ?_))
  refine wpAny_bind (I.type.here (wpAny_bind (hb.here ?_)))
  split
  · rename_i q
    have e : PySem.W.subIn K tb (.ref C) = some false := by
      rcases Bool.or_eq_true_iff.mp hn with e | e
      · rw [beq_iff_eq.mp e] at q; simp at q
      · exact beq_iff_eq.mp e
    refine wpAny_bind ((PySem.W.looks_subIn X e).here ?_)
    simp only [Bool.false_eq_true, if_false]
    refine wpAny_bind (wpAny_mono one (fun r s' z => ?_) fun _ _ e => e)
    obtain ⟨v, rfl, hq⟩ := z
    exact wpAny_pure hq
  · refine wpAny_bind (wpAny_pure ?_)
    simp only [Bool.false_eq_true, if_false]
    refine wpAny_bind (wpAny_mono one (fun r s' z => ?_) fun _ _ e => e)
    obtain ⟨v, rfl, hq⟩ := z
    exact wpAny_pure hq
/-- what a class with its own __eq__ must have for != -/
structure NeC (K : PySem.W.Frag) (C : Addr) : Prop where
  ne : PySem.W.findIn K (.ref C) "__ne__" = some (some (.builtin "object.__ne__"))
  ob : PySem.W.mroIn K C (.type "object") = some true
theorem op_neO (G : Own X C "__eq__" n sp E) (N : NeC X.K C) (hr : Room (n + 1) X.A) : OpR X (compareOp .NotEq) (rNeO X C sp E) := by
  obtain ⟨f, fd, ps, CX, F, hs, hf, hb, hx⟩ := G.ex
  intro pins s σ H x y v u Q I rx ry h
  obtain ⟨a, dx, fs, rfl, ha, ho, q⟩ := h
  cases rx
  obtain ⟨t, ht, hn⟩ := other_looks I ry ho
  obtain ⟨mA, J, _⟩ := ins_get I.hok ha
  obtain ⟨od, J, _⟩ := J.look
  have sb : Sub X n X.A.in1 := ⟨hr.in1, rfl⟩
  show wpAny (model X.prog X.w) X.A (richCompare .NotEq (.ref a) u) (EP X pins σ Q) X.xe s
  refine ne_K hr.units0 sb.room.units0 I.kIn J ht hn N.ne N.ob hs hf ?_
  refine thn (run_sub (vs := [V.ref a, y]) sb F hb hx I (.cons rfl (.cons ry .nil)) q) fun w1 s1 hh => ?_
  obtain ⟨z, H1, I1, rv, b, rfl, q1⟩ := hh
  cases rv
  exact ⟨b, rfl, .bl (!b), H1, I1, rfl, q1⟩

/-! ### in by __contains__, operators by their own methods -/
def rInO (C : Addr) (sp : Sp) (E : XK) (g : Bool → Bool) : R2 := fun x y H Q => ∃ a dx fs, y = .ref a ∧ H a = some (.ins C dx fs) ∧ sp [.ref a, x] H (fun v H' => ∃ b : Bool, v = .bl b ∧ Q (.bl (g b)) H') E
theorem op_inO (G : Own X C "__contains__" n sp E) (hr : Room n X.A) : OpR X (compareOp .In) (rInO C sp E id) := by
  obtain ⟨f, fd, ps, CX, F, hs, hf, hb, hx⟩ := G.ex
  intro pins s σ H x y v u Q I rx ry h
  obtain ⟨a, dx, fs, rfl, ha, q⟩ := h
  cases ry
  obtain ⟨mA, J, _⟩ := ins_get I.hok ha
  obtain ⟨od, J, _⟩ := J.look
  obtain ⟨m, hF⟩ := I.fr
  have sb : Sub X n X.A := ⟨hr, rfl⟩
  refine PySem.W.in_K hF I.ok.mod.kin J hs hf ?_
  refine thn (run_sub (vs := [V.ref a, x]) sb F hb hx I (.cons rfl (.cons rx .nil)) q) fun w1 s1 hh => ?_
  obtain ⟨z, H1, I1, rv, b, rfl, q1⟩ := hh
  cases rv
  exact wpAny_truthy_bool ⟨.bl b, H1, I1, rfl, q1⟩
theorem op_notInO (G : Own X C "__contains__" n sp E) (hr : Room n X.A) : OpR X (compareOp .NotIn) (rInO C sp E not) := by
  obtain ⟨f, fd, ps, CX, F, hs, hf, hb, hx⟩ := G.ex
  intro pins s σ H x y v u Q I rx ry h
  obtain ⟨a, dx, fs, rfl, ha, q⟩ := h
  cases ry
  obtain ⟨mA, J, _⟩ := ins_get I.hok ha
  obtain ⟨od, J, _⟩ := J.look
  obtain ⟨m, hF⟩ := I.fr
  have sb : Sub X n X.A := ⟨hr, rfl⟩
  refine PySem.W.notIn_K hF I.ok.mod.kin J hs hf ?_
  refine thn (run_sub (vs := [V.ref a, x]) sb F hb hx I (.cons rfl (.cons rx .nil)) q) fun w1 s1 hh => ?_
  obtain ⟨z, H1, I1, rv, b, rfl, q1⟩ := hh
  cases rv
  exact wpAny_truthy_bool ⟨.bl (!b), H1, I1, rfl, q1⟩
/-- a op b, two instances of one class; the answer an object -/
def rBinO (C : Addr) (sp : Sp) (E : XK) : R2 := fun x y H Q => ∃ a dx fs b dy gs, x = .ref a ∧ y = .ref b ∧ H a = some (.ins C dx fs) ∧ H b = some (.ins C dy gs) ∧ sp [.ref a, .ref b] H (fun v H' => ∃ p, v = .ref p ∧ Q (.ref p) H') E
theorem op_binO {op : Operator} (G : Own X C (dunder op.info.snd) n sp E) (hc : PySem.W.selfFirst X.K C = true) (hr : Room n X.A) : OpR X (binaryOp op) (rBinO C sp E) := by
  obtain ⟨f, fd, ps, CX, F, hs, hf, hb, hx⟩ := G.ex
  intro pins s σ H x y v u Q I rx ry h
  obtain ⟨a, dx, fs, b, dy, gs, rfl, rfl, ha, hb', q⟩ := h
  cases rx
  cases ry
  obtain ⟨mA, J, _⟩ := ins_get I.hok ha
  obtain ⟨od, J, _⟩ := J.look
  obtain ⟨mB, J', _⟩ := ins_get I.hok hb'
  obtain ⟨od', J', _⟩ := J'.look
  obtain ⟨m, hF⟩ := I.fr
  have sb : Sub X n X.A := ⟨hr, rfl⟩
  refine PySem.W.binop_K hF I.ok.mod.kin J J'.type hc hs hf ?_
  refine thn (run_sub (vs := [V.ref a, V.ref b]) sb F hb hx I (.cons rfl (.cons rfl .nil)) q) fun w1 s1 hh => ?_
  obtain ⟨z, H1, I1, rv, p, rfl, q1⟩ := hh
  cases rv
  exact ⟨.ref p, H1, I1, rfl, q1⟩
end

/-! ### static methods, read off the class -/
structure SMet (K : PySem.W.Frag) (C : Addr) (mc : Value) (m : Str) (g : Addr) : Prop where
  rd : ClX.CRead K C mc
  at_ : ∃ p o, PySem.W.findCls K (.ref C) mc m = some (.get (.builtin "staticmethod.__get__") (.ref p) o (.ref C)) ∧ ∃ rest, PySem.W.recIn K p "staticmethod" = some (.ref g :: rest)
  kp : PySem.W.keepIn K (.ref g) = true
theorem getmethsm_ok {X : Cx} {pins : List (Addr × Obj)} {σ : L2.St} {H : Hp} {s : Shared} {C g : Addr} {mc : Value} {m : Str} {A : Around} {E : Value → Shared → Prop} {pl : Sem Bool} {Q : Value × List Value → Shared → Prop} (I : Inv X pins σ H s) (k : SMet X.K C mc m g)
    (h : ∀ s', Inv X pins σ H s' → Q (.ref g, []) s') : wpAny (model X.prog X.w) A (getMethod (.ref C) m pl) Q E s := by
  obtain ⟨p, o, ha, rest, hp⟩ := k.at_
  refine PySem.W.method_cls I.kIn k.rd.ga (PySem.W.cls_bind I.kIn k.rd.rd ha ?_)
  refine wpAny_call (PySem.W.sm_get (s := { s with toks := s.toks + 1 }) I.kIn hp (PySem.W.handed_on rfl ?_))
  exact h _ (I.tok _)
section
variable {X : Cx} {CX : CXT} {k : Nat} {C g f : Addr} {mc : Value} {sp : Sp} {E : XK} {o e : Expr} {es : List Expr} {kws : List Keyword} {m x : Str} {pos apos p : Pos} {ta : TE} {t tk : TA} {pl : Sem Bool} {fd : FuncData} {ps ks : List Str}
/-- C.m(e, ..) -/
def tSMeth (C : Addr) (sp : Sp) (E : XK) (ta : TE) (t : TA) : TE := fun σ H Q => ta σ H fun x H1 => x = .ref C ∧ t σ H1 fun vs H2 => sp (vs ++ []) H2 Q E
theorem pe_smeth (he : PE X o ta) (c : SMet X.K C mc m g) (F : FnOk X.prog X.w X.K X.mg X.base CX k g fd ps sp) (hr : Room k X.A) (hb : Binds X.K fd ps []) (hx : Passes CX X E) (ha : PA X (e :: es) t)
    (hst : starEach (e :: es) X.env = (false, eval e X.env) :: starEach es X.env := by rfl) (hpl : (backTo pos (starEach es X.env)).any (·.1) = false := by rfl)
    (ht : eval (.Call (.Attribute o m apos) (e :: es) [] pos) X.env = (do
      let ov ← eval o X.env
      standAt apos.atName
      let (f, first) ← holding [ov] (getMethod ov m pl)
      callWith pos f first (backTo pos (starEach (e :: es) X.env)) (backToKw pos (keywordEach [] X.env))) := by rfl) :
    PE X (.Call (.Attribute o m apos) (e :: es) [] pos) (tSMeth C sp E ta t) := by
  refine ⟨fun pins s σ H Q I h => ?_⟩
  refine PySem.W.methodCall_KW (pl := pl) (thn (he.run pins s σ H _ I h) fun u s1 ⟨x, H1, I1, rx, ex, q⟩ => ?_) ht
  subst ex
  obtain rfl : u = Value.ref C := rx
  refine getmethsm_ok I1 c fun s2 I2 => ?_
  refine PySem.W.callWith_K (first := []) (h₀ := X.base) I.ok.mod.kin c.kp (thn (ha.run pos pins s2 σ H1 _ I2 q) fun us s3 ⟨vs, H2, I3, r, q2⟩ => ⟨I3.kIn, ?_⟩) hst hpl
  exact run_fn F hr hb .nil hx I3 r q2
/-- C.m(k = v, ..) -/
def tSMethK (C : Addr) (sp : Sp) (gV : List V → List V → List V) (E : XK) (ta : TE) (tk : TA) : TE := fun σ H Q => ta σ H fun x H1 => x = .ref C ∧ tk σ H1 fun zs H2 => sp (gV [] zs) H2 Q E
variable {gg : List Value → List Value → List Value} {gV : List V → List V → List V}
theorem pe_smethK (he : PE X o ta) (c : SMet X.K C mc m g) (F : FnOk X.prog X.w X.K X.mg X.base CX k g fd ps sp) (hr : Room k X.A) (hb : KBinds X.K fd ps ks gg gV) (hx : Passes CX X E) (hkw : PK X kws tk)
    (hall : (backToKw pos (keywordEach kws X.env)).all (·.1.isSome) = true := by rfl) (hks : (backToKw pos (keywordEach kws X.env)).filterMap (·.1) = ks := by rfl)
    (hpl : ((backTo pos (starEach [] X.env)).any (·.1) || (backToKw pos (keywordEach kws X.env)).any (·.1.isNone)) = false := by rfl)
    (ht : eval (.Call (.Attribute o m apos) [] kws pos) X.env = (do
      let ov ← eval o X.env
      standAt apos.atName
      let (f, first) ← holding [ov] (getMethod ov m pl)
      callWith pos f first (backTo pos (starEach [] X.env)) (backToKw pos (keywordEach kws X.env))) := by rfl) :
    PE X (.Call (.Attribute o m apos) [] kws pos) (tSMethK C sp gV E ta tk) := by
  refine ⟨fun pins s σ H Q I h => ?_⟩
  refine PySem.W.methodCall_KW (pl := pl) (thn (he.run pins s σ H _ I h) fun u s1 ⟨x, H1, I1, rx, ex, q⟩ => ?_) ht
  subst ex
  obtain rfl : u = Value.ref C := rx
  refine getmethsm_ok I1 c fun s2 I2 => ?_
  refine PySem.W.callWith_KW0 (first := []) (h₀ := X.base) I.ok.mod.kin c.kp hall ?_ hpl
  refine thn (hkw.run pos pins s2 σ H1 _ I2 q) fun ws s3 ⟨zs, H2, I3, rz, q2⟩ => ⟨I3.kIn, ?_⟩
  rw [hks]
  exact run_fnk (us := []) (vs := []) F hr hb hx I3 .nil rz q2
/-- the i-th slot holds the class at C: x(e, ..) makes an instance -/
def tMakeL (i : Nat) (C : Addr) (sp : Sp) (E : XK) (t : TA) : TE := fun σ H Q => σ[i]? = some (some (.ref C)) ∧ tMake C sp [] E t σ H Q
theorem pe_makeL {i : Nat} (M : Mk X.K C f) (F : FnOk X.prog X.w X.K X.mg X.base CX k f fd ps sp) (hr : Room (k + 1) X.A) (hN : X.N[i]? = some x) (hv : Vis X.env.scope x) (hb : Binds X.K fd ps []) (hx : Passes CX X E)
    (ha : PA X (e :: es) t) (hdb : (x == ("__debug__" : Str)) = false := by decide) (hcd : (x == ("__classdict__" : Str)) = false := by decide) (he : starEach (e :: es) X.env = (false, eval e X.env) :: starEach es X.env := by rfl) (hpl : (backTo pos (starEach es X.env)).any (·.1) = false := by rfl) :
    PE X (.Call (.Name x p) (e :: es) [] pos) (tMakeL i C sp E t) := by
  refine ⟨fun pins s σ H Q I h => ?_⟩
  obtain ⟨hs, ht⟩ := h
  refine wpAny_Call_Name_kw (thn ((pe_var (pos := p) hN hv hdb hcd).run pins s σ H (fun v H1 => v = .ref C ∧ H1 = H) I ⟨.ref C, hs, rfl, rfl⟩) fun u s1 ⟨v, H1, I1, r1, q1⟩ => ?_)
  obtain ⟨rfl, rfl⟩ := q1
  cases r1
  refine PySem.W.callWith_K (h₀ := X.base) I.ok.mod.kin M.kp (thn (ha.run pos pins s1 σ _ _ I1 ht) fun us s2 ⟨vs, H2, I2, r, q⟩ => ⟨I2.kIn, ?_⟩) he hpl
  exact run_make M F hr hb .nil hx I2 r q
end

/-! ### a classmethod called with keywords -/
theorem fnR_of {P : Program} {w : World} {K : PySem.W.Frag} {mg : Str → Option Value} {base : Heap} {CX : CXT} {k : Nat} {f : Addr} {fd : FuncData} {ps : List Str} {sp : Sp} (F : FnOk P w K mg base CX k f fd ps sp) (hb : Binds K fd ps []) : FnR P w K mg base CX k f sp := by
  have h := FnOk.raw F hb (.nil : Vals [] [])
  refine FnR.imp h fun vs H Q E q => ?_
  show sp (vs ++ []) H Q E
  rw [List.append_nil]
  exact q
section
variable {X : Cx} {CX : CXT} {k : Nat} {C p g : Addr} {mc : Value} {sp : Sp} {E : XK} {o : Expr} {kws : List Keyword} {m : Str} {pos apos : Pos} {ta : TE} {tk : TA} {pl : Sem Bool} {fd : FuncData} {ps ks : List Str} {gg : List Value → List Value → List Value} {gV : List V → List V → List V}
def tCMethK (C : Addr) (sp : Sp) (gV : List V → List V → List V) (E : XK) (ta : TE) (tk : TA) : TE := fun σ H Q => ta σ H fun x H1 => x = .ref C ∧ tk σ H1 fun zs H2 => sp (gV [.ref C] zs) H2 Q E
theorem pe_cmethK (he : PE X o ta) (r : ClX.CRead X.K C mc) (c : ClX.CMet X.K C mc m p g) (F : FnOk X.prog X.w X.K X.mg X.base CX k g fd ps sp) (hr : Room k X.A) (hb : KBinds X.K fd ps ks gg gV) (hx : Passes CX X E) (hkw : PK X kws tk)
    (hall : (backToKw pos (keywordEach kws X.env)).all (·.1.isSome) = true := by rfl) (hks : (backToKw pos (keywordEach kws X.env)).filterMap (·.1) = ks := by rfl)
    (hpl : ((backTo pos (starEach [] X.env)).any (·.1) || (backToKw pos (keywordEach kws X.env)).any (·.1.isNone)) = false := by rfl)
    (ht : eval (.Call (.Attribute o m apos) [] kws pos) X.env = (do
      let ov ← eval o X.env
      standAt apos.atName
      let (f, first) ← holding [ov] (getMethod ov m pl)
      callWith pos f first (backTo pos (starEach [] X.env)) (backToKw pos (keywordEach kws X.env))) := by rfl) :
    PE X (.Call (.Attribute o m apos) [] kws pos) (tCMethK C sp gV E ta tk) := by
  refine ⟨fun pins s σ H Q I h => ?_⟩
  refine PySem.W.methodCall_KW (pl := pl) (thn (he.run pins s σ H _ I h) fun u s1 ⟨x, H1, I1, rx, ex, q⟩ => ?_) ht
  subst ex
  obtain rfl : u = Value.ref C := rx
  refine ClX.getmethcm_ok I1 r c fun s2 I2 => ?_
  refine PySem.W.callWith_of (P := PySem.W.MethP X.K s1.heap.objs.size g (.ref C)) hpl (PySem.W.keeps_M c.fi) (PyProof.Rows.evalArgs_kw2_nil hall ?_)
  refine thn (hkw.run pos _ s2 σ H1 _ I2 q) fun ws s3 ⟨zs, H2, I3, rz, q2⟩ => ⟨⟨ClX.pin_at I3, I3.kIn⟩, ?_⟩
  rw [hks]
  have r2 := hb.rel (vs := [V.ref C]) (us := [Value.ref C]) (.cons rfl .nil) rz
  have hl : (gg [Value.ref C] ws).length = ps.length := by rw [← r2.length]; exact F.len _ _ _ _ q2
  have z : wpAny (model X.prog X.w) X.A (call (.ref s1.heap.objs.size) [] (ks.zip ws)) (EP X ((s1.heap.objs.size, PySem.W.methodObj (.ref g) (.ref C)) :: pins) σ Q) X.xe s3 := by
    refine wpAny_call (PySem.W.method_call (ClX.pin_at I3) (codeAny_mono (F.run X.A X.stack s3 H2 ⟨[.ref C], ks.zip ws⟩ (gg [.ref C] ws) (gV [.ref C] zs) Q E hr I3.env0 (hb.to s3 [.ref C] ws I3.kIn hl) r2 q2) fun r s' hq => ?_))
    cases r with
    | error e => exact hx _ σ H2 s3 e s' I3 hq
    | ok fl =>
      cases fl with
      | ret u => exact I3.after hq
      | next => exact False.elim hq
      | brk => exact False.elim hq
      | cont => exact False.elim hq
  exact thn z fun _ _ y => ClX.unpinE y
end

/-! ### keywords in the order of the parameters -/
def kperm_0_10 {α : Type} : List α → List α → List α
  | [], [x, y] => [y, x]
  | _, _ => []
def kperm_1_0 {α : Type} : List α → List α → List α
  | [c], [x] => [c, x]
  | _, _ => []
section
variable {K : PySem.W.Frag} {x qual : Str} {st : Stmt} {f : Addr} {fd : FuncData}
theorem kperm_0_10_kb {p0 p1 k0 k1 : Str} (F : Fun K x qual st f fd) (h : ∀ (kV doc pm : Value) (an : Option Addr) (cdv ct : Value) (u v : Value), bindArgs (PySem.W.fnOf x qual (defArgs st) (defBody st) (defScope st) .none kV doc pm an cdv ct) ⟨[], [(k0, u), (k1, v)]⟩ = pure [(p0, v), (p1, u)]) :
    KBinds K fd [p0, p1] [k0, k1] kperm_0_10 kperm_0_10 := by
  obtain ⟨oc, od, kV, doc, pm, an, cdv, ct, osl, rfl, lk, hcd⟩ := F.ex
  refine ⟨fun s us ws _ hl => ?_, fun {vs us zs ws} r r2 => ?_⟩
  · match us, ws, hl with
    | [], [u, v], _ => exact .of_eq (h kV doc pm an cdv ct u v)
    | [], [], hl => simp [kperm_0_10] at hl
    | [], [_], hl => simp [kperm_0_10] at hl
    | [], _ :: _ :: _ :: _, hl => simp [kperm_0_10] at hl
    | _ :: _, _, hl => simp [kperm_0_10] at hl
  · cases r with
    | cons _ _ => exact .nil
    | nil =>
      cases r2 with
      | nil => exact .nil
      | cons a r2 =>
        cases r2 with
        | nil => exact .nil
        | cons b r2 =>
          cases r2 with
          | nil => exact .cons b (.cons a .nil)
          | cons _ _ => exact .nil
theorem kperm_1_0_kb {p0 p1 k0 : Str} (F : Fun K x qual st f fd) (h : ∀ (kV doc pm : Value) (an : Option Addr) (cdv ct : Value) (u v : Value), bindArgs (PySem.W.fnOf x qual (defArgs st) (defBody st) (defScope st) .none kV doc pm an cdv ct) ⟨[u], [(k0, v)]⟩ = pure [(p0, u), (p1, v)]) :
    KBinds K fd [p0, p1] [k0] kperm_1_0 kperm_1_0 := by
  obtain ⟨oc, od, kV, doc, pm, an, cdv, ct, osl, rfl, lk, hcd⟩ := F.ex
  refine ⟨fun s us ws _ hl => ?_, fun {vs us zs ws} r r2 => ?_⟩
  · match us, ws, hl with
    | [u], [v], _ => exact .of_eq (h kV doc pm an cdv ct u v)
    | [], _, hl => simp [kperm_1_0] at hl
    | [_], [], hl => simp [kperm_1_0] at hl
    | [_], _ :: _ :: _, hl => simp [kperm_1_0] at hl
    | _ :: _ :: _, _, hl => simp [kperm_1_0] at hl
  · cases r with
    | nil => exact .nil
    | cons a r =>
      cases r with
      | cons _ _ => exact .nil
      | nil =>
        cases r2 with
        | nil => exact .nil
        | cons b r2 =>
          cases r2 with
          | nil => exact .cons a (.cons b .nil)
          | cons _ _ => exact .nil
end

/-! ### isinstance against an own class -/
structure TyC (K : PySem.W.Frag) (C : Addr) : Prop where
  cl : Cls K C
  hc : PySem.W.findIn K (.ref C) "__class__" = some (some (.builtin "object.__class__"))
  hn : PySem.W.specialIn K (.builtin "object.__class__") "__get__" = some (some (.builtin "getset_descriptor.__get__"))
  ht : PySem.W.takesIn K (.builtin "object.__class__") = some true
  mo : PySem.W.mroIn K C (.type "object") = some true
  ic : PySem.W.isClsIn K C = true
  ty : PySem.W.typeIn K (.ref C) = some (.type "type")
theorem TyC.at {K : PySem.W.Frag} {C : Addr} (T : TyC K C) {H : Hp} {a dx : Addr} {fs : List (Str × V)} (e : H a = some (.ins C dx fs)) : TyOf K H (.ref a) (.ref C) := .ins e T.cl T.hc T.hn T.ht T.mo
theorem kit_self {K : PySem.W.Frag} {C : Addr} : PySem.W.kitOne K (.ref C) (.ref C) = some true := by
  unfold PySem.W.kitOne
  rw [if_pos (by simp)]
theorem TyC.kit {K : PySem.W.Frag} {C : Addr} (T : TyC K C) {t : Value} {b : Bool} (h : PySem.W.subIn K t (.ref C) = some b) (hne : (t == .ref C) = false) : PySem.W.kitOne K t (.ref C) = some b := by
  unfold PySem.W.kitOne
  rw [if_neg (by rw [hne]; decide)]
  unfold PySem.W.kitCls
  have h1 : (PySem.W.clsIn K C).isSome = true := T.ic
  have e : ((PySem.W.clsIn K C).isSome && PySem.W.typeIn K (.ref C) == some (.type "type")) = true := by
    rw [h1, T.ty] <;> rfl
  show (if ((PySem.W.clsIn K C).isSome && PySem.W.typeIn K (.ref C) == some (.type "type")) = true then PySem.W.subIn K t (.ref C) else none) = some b
  rw [if_pos e, h]
end Hk

/-! The readings, step by step: one lemma a combinator, and words that try them. -/
namespace Hk
open PySem PySem.Spec PyProof.Rows L2

theorem cxK {CX : CXT} {P : Program} {w : World} {K : PySem.W.Frag} {mg : Str → Option Value} {base : Heap} {N : List Str} {qual : Str} {scope : Scope} {f : Addr} {cd : Value} {A : Around} {outer : List Env} {s : Shared} {H : Hp} {E : XK} :
    (cxOf CX P w K mg base N qual scope f cd A outer s H E).K = K := rfl

/-! ### names for the built-ins' readings -/
def rLenSeq (K : PySem.W.Frag) : List V → Hp → VK → Prop := fun xs H Q => ∃ p ys, xs = [.ref p] ∧ (SqL K H p ys ∨ SqT K H p ys) ∧ Q (.int ys.length) H
theorem call_lenSeq {X : Cx} : CallR X (.builtin "len") (rLenSeq X.K) := call_len_seq
def rLenStr : List V → Hp → VK → Prop := fun xs H Q => ∃ z, xs = [.str z] ∧ z.length ≤ sizeLine ∧ Q (.int z.length) H
theorem call_lenStr {X : Cx} : CallR X (.builtin "len") rLenStr := call_len_str
def rAbs : List V → Hp → VK → Prop := fun xs H Q => ∃ i, xs = [.int i] ∧ Q (.int (if i < 0 then -i else i)) H
theorem call_absI {X : Cx} : CallR X (.builtin "abs") rAbs := call_abs
def rInt1 : List V → Hp → VK → Prop := fun xs H Q => (∃ i, xs = [.int i] ∧ Q (.int i) H) ∨ ∃ k, xs = [.bl k] ∧ Q (.int (if k then 1 else 0)) H
theorem call_intI {X : Cx} : CallR X (.type "int") rInt1 := call_int1
def rMaxI : List V → Hp → VK → Prop := fun xs H Q => ∃ i j, xs = [.int i, .int j] ∧ Q (.int (if j > i then j else i)) H
theorem call_maxI {X : Cx} (hc : X.calm = true) : CallR X (.builtin "max") rMaxI := call_max2 hc
def rMinI : List V → Hp → VK → Prop := fun xs H Q => ∃ i j, xs = [.int i, .int j] ∧ Q (.int (if j < i then j else i)) H
theorem call_minI {X : Cx} (hc : X.calm = true) : CallR X (.builtin "min") rMinI := call_min2 hc
def rStrS : List V → Hp → VK → Prop := fun xs H Q => ∃ a, xs = [.str a] ∧ Q (.str a) H
theorem call_strS {X : Cx} : CallR X (.type "str") rStrS := SkE.call_str_str
def rListOf (K : PySem.W.Frag) : List V → Hp → VK → Prop := fun xs H Q => ∃ p ys, xs = [.ref p] ∧ (SqL K H p ys ∨ SqT K H p ys) ∧ ∀ l, H l = none → Q (.ref l) (upd H l (.lst ys))
theorem call_listOf {X : Cx} : CallR X (.type "list") (rListOf X.K) := call_list_of
def rAddStr : R2 := fun x y H Q => ∃ i j, x = .str i ∧ y = .str j ∧ i.length + j.length ≤ sizeLine ∧ Q (.str (i ++ j)) H
theorem op_addStr {X : Cx} : OpR X (binaryOp .Add) rAddStr := op_add_str
def rInSign : R2 := fun x y H Q => ∃ (c : Nat) (z : Str), x = .str ⟨#[c]⟩ ∧ y = .str z ∧ Q (.bl (decide (c ∈ z.cps.toList))) H
theorem op_inSign {X : Cx} : OpR X (compareOp .In) rInSign := op_in_sign
def rNotInSign : R2 := fun x y H Q => ∃ (c : Nat) (z : Str), x = .str ⟨#[c]⟩ ∧ y = .str z ∧ Q (.bl (!decide (c ∈ z.cps.toList))) H
theorem op_notInSign {X : Cx} : OpR X (compareOp .NotIn) rNotInSign := op_notIn_sign
def rIsNone : R2 := fun x y H Q => y = .non ∧ Q (.bl (decide (x = .non))) H
def rNotNone : R2 := fun x y H Q => y = .non ∧ Q (.bl (!decide (x = .non))) H
theorem op_isNone {X : Cx} : OpR X (compareOp .Is) rIsNone := op_isN
theorem op_notNone {X : Cx} : OpR X (compareOp .IsNot) rNotNone := op_notN

/-! ### heaps -/
section
variable {H H1 H2 : Hp} {p q : Addr} {o u : HO}
theorem upd_new (hq : H q = none) (h : H p = some o) : upd H q u p = some o := by
  rw [upd_ne (ne_of_none h hq)]
  exact h
theorem upd_old (hq : p ≠ q) (h : H p = some o) : upd H q u p = some o := by
  rw [upd_ne hq]
  exact h
theorem upd_oldN (hq : p ≠ q) (h : H p = none) : upd H q u p = none := by
  rw [upd_ne hq]
  exact h
theorem ne_new (hq : H q = none) (h : H p = some o) : p ≠ q := ne_of_none h hq
theorem ne_new' (hq : H q = none) (h : H p = some o) : q ≠ p := (ne_of_none h hq).symm
theorem same_new (h : H q = none) : Same H (upd H q u) := fun b o e => upd_new h e
theorem same_mut (e : Same H H1) (h : H q = none) : Same H (upd H1 q u) := fun b o z => by
  rw [upd_ne (ne_of_none z h)]
  exact e b o z
theorem same_at (e : Same H H1) (h : H p = some o) : H1 p = some o := e _ _ h
theorem same_none (e : Same H H1) (h : H1 q = none) : H q = none := e.free h
theorem sqL_of {K : PySem.W.Frag} {xs : List V} (h : H p = some (.lst xs)) : SqL K H p xs := .inl (.inl h)
theorem sqT_of {K : PySem.W.Frag} {xs : List V} (h : H p = some (.tup xs)) : SqT K H p xs := .inl (.inl h)
theorem sqT_same {K : PySem.W.Frag} {xs : List V} (e : Same H H1) (h : SqT K H p xs) : SqT K H1 p xs := by
  rcases h with (h | ⟨o, h⟩) | h
  · exact .inl (.inl (e _ _ h))
  · exact .inl (.inr ⟨o, e _ _ h⟩)
  · exact .inr h
/-- a list that is read, behind a store elsewhere -/
theorem sqL_upd {K : PySem.W.Frag} {xs : List V} (hq : p ≠ q) (h : SqL K H p xs) : SqL K (upd H q u) p xs := by
  rcases h with (h | ⟨o, h⟩) | h
  · exact .inl (.inl (upd_old hq h))
  · exact .inl (.inr ⟨o, upd_old hq h⟩)
  · exact .inr h
/-- .. of something that is no list -/
theorem sqL_new {K : PySem.W.Frag} {xs : List V} (hq : H q = none) (h : SqL K H p xs) : SqL K (upd H q u) p xs := (same_new hq).seq h
end

/-! ### readings -/
section
variable {K : PySem.W.Frag} {σ : L2.St} {H : Hp} {Q : VK} {ta tb te tv : TE} {t u : TT} {v x y : V} {D : Ends} {t1 t2 tu : TS} {tt : TA} {g : TG} {i j : Int} {n : Nat} {f : Str} {b : Bool} {QB : Bool → Hp → Prop} {QA : List V → Hp → Prop} {k : L2.St → Hp → Prop}
theorem rd_seq (h : t1 { D with nx := t2 D } σ H) : tSeq t1 t2 D σ H := h
theorem rd_cut (M : L2.St → Hp → Prop) (h : t1 { D with nx := M } σ H) (q : ∀ σ' H', M σ' H' → t2 D σ' H') : Evl.tCut t1 t2 D σ H := ⟨M, h, q⟩
theorem rd_asgN {m : Nat} (h : te σ H fun x H1 => t2 D (σ.set m (some x)) H1) : tSeq (tAsg te (gName m)) t2 D σ H := h
theorem rd_next (h : D.nx σ H) : tNext D σ H := h
theorem rd_asg (h : te σ H fun x H1 => g x σ H1 D.nx) : tAsg te g D σ H := h
theorem rd_gname (h : k (σ.set n (some v)) H) : gName n v σ H k := h
theorem rd_drop (h : te σ H fun _ H1 => D.nx σ H1) : tDrop te D σ H := h
theorem rd_ret (h : te σ H D.rt) : tRet te D σ H := h
theorem rd_retN (h : D.rt .non H) : tRetN D σ H := h
theorem rd_brk (h : D.bk σ H) : tBreak D σ H := h
theorem rd_cont (h : D.ct σ H) : tCont D σ H := h
theorem rd_ifS {c : TT} (h : c σ H fun b H1 => if b = true then t1 D σ H1 else t2 D σ H1) : tIfS c t1 t2 D σ H := h
theorem rd_par {n m : Nat} {vs : List V} (h : tt σ H fun vs H1 => ∃ v w, vs = [v, w] ∧ D.nx ((σ.set n (some v)).set m (some w)) H1) : tPar n m tt D σ H := h
theorem rd_par2 {v w : V} {P : V → V → Prop} (h : P v w) : ∃ v' w', [v, w] = [v', w'] ∧ P v' w' := ⟨v, w, rfl, h⟩
theorem rd_var (e : σ[n]? = some (some v)) (h : Q v H) : tVar n σ H Q := ⟨v, e, h⟩
theorem rd_c (h : Q v H) : tC v σ H Q := h
theorem rd_op {r : R2} (h : ta σ H fun x H1 => tb σ H1 fun y H2 => r x y H2 Q) : tOp r ta tb σ H Q := h
theorem rd_un {r : V → Hp → VK → Prop} (h : ta σ H fun x H1 => r x H1 Q) : tUn r ta σ H Q := h
theorem rd_cb {r : List V → Hp → VK → Prop} (h : tt σ H fun vs H1 => r vs H1 Q) : tCB r tt σ H Q := h
theorem rd_cons (h : te σ H fun x H1 => tt σ H1 fun xs H2 => QA (x :: xs) H2) : tCons te tt σ H QA := h
theorem rd_nil (h : QA [] H) : tNil σ H QA := h
theorem rd_test (h : te σ H fun x H' => ∃ k, x = .bl k ∧ QB k H') : tTest te σ H QB := h
theorem rd_B (h : te σ H fun x H' => ∃ k, x = .bl k ∧ QB k H') : tB te σ H QB := h
theorem rd_bl {P : Bool → Prop} (h : P b) : ∃ k, V.bl b = .bl k ∧ P k := ⟨b, rfl, h⟩
theorem rd_and (h : t σ H fun c H1 => if c = true then u σ H1 QB else QB false H1) : tAnd t u σ H QB := h
theorem rd_or (h : t σ H fun c H1 => if c = true then QB true H1 else u σ H1 QB) : tOr t u σ H QB := h
theorem rd_not (h : t σ H fun c H1 => QB (!c) H1) : tNot t σ H QB := h
theorem rd_andV (h : ta σ H fun x H1 => ∃ c, x = .bl c ∧ if c = true then tb σ H1 Q else Q (.bl false) H1) : tAndV ta tb σ H Q := h
theorem rd_orV (h : ta σ H fun x H1 => ∃ c, x = .bl c ∧ if c = true then Q (.bl true) H1 else tb σ H1 Q) : tOrV ta tb σ H Q := h
theorem rd_notV (h : ta σ H fun x H1 => ∃ c, x = .bl c ∧ Q (.bl (!c)) H1) : tNotV ta σ H Q := h
theorem rd_if (h : t σ H fun c H1 => if c = true then ta σ H1 Q else tb σ H1 Q) : tIf t ta tb σ H Q := h
theorem rd_I0 {g : Int → Int → V} (h : Q (g i j) H) : rI0 g (.int i) (.int j) H Q := ⟨i, j, rfl, rfl, h⟩
theorem rd_I {C : Int → Int → Prop} {g : Int → Int → V} (c : C i j) (h : Q (g i j) H) : rI C g (.int i) (.int j) H Q := ⟨i, j, rfl, rfl, c, h⟩
theorem rd_mod (c : 0 < j) (h : Q (.int (i % j)) H) : rI (fun _ j => 0 < j) (fun i j => .int (i % j)) (.int i) (.int j) H Q := ⟨i, j, rfl, rfl, c, h⟩
theorem cdivW (h : 0 < j) (hb : j < 2 ^ 100) : CDivW i j := wide_div (b := 100) h (by
  have e : ((2 : Int) ^ 100) = ((2 ^ 100 : Nat) : Int) := by decide
  rw [e] at hb
  omega) (by decide) (by decide)
theorem rd_div (c : 0 < j) (c2 : j < 2 ^ 100) (h : Q (.int (i / j)) H) : rI CDivW (fun i j => .int (i / j)) (.int i) (.int j) H Q := ⟨i, j, rfl, rfl, cdivW c c2, h⟩
theorem rd_mulR (c : -(2 ^ 64) < j) (c2 : j < 2 ^ 64) (h : Q (.int (i * j)) H) : rI CMul (fun i j => .int (i * j)) (.int i) (.int j) H Q := ⟨i, j, rfl, rfl, .inr ⟨c, c2⟩, h⟩
theorem rd_mulL (c : -(2 ^ 64) < i) (c2 : i < 2 ^ 64) (h : Q (.int (i * j)) H) : rI CMul (fun i j => .int (i * j)) (.int i) (.int j) H Q := ⟨i, j, rfl, rfl, .inl ⟨c, c2⟩, h⟩
theorem rd_pow (c : CPow i j) (h : Q (.int (i ^ j.toNat)) H) : rI CPow (fun i j => .int (i ^ j.toNat)) (.int i) (.int j) H Q := ⟨i, j, rfl, rfl, c, h⟩
theorem rd_U {g : Int → V} (h : Q (g i) H) : rU g (.int i) H Q := ⟨i, rfl, h⟩
theorem rd_eq (e : scal x y = true) (h : Q (.bl (decide (x = y))) H) : rEq x y H Q := ⟨e, h⟩
theorem rd_ne (e : scal x y = true) (h : Q (.bl (!decide (x = y))) H) : rNe x y H Q := ⟨e, h⟩
theorem rd_isNone (h : Q (.bl (decide (x = .non))) H) : rIsNone x .non H Q := ⟨rfl, h⟩
theorem rd_notNone (h : Q (.bl (!decide (x = .non))) H) : rNotNone x .non H Q := ⟨rfl, h⟩
theorem rd_ixL {p : Addr} {xs : List V} (h : SqL K H p xs) (e : atI xs i = some v) (q : Q v H) : rIxL K (.ref p) (.int i) H Q := ⟨p, xs, i, v, rfl, rfl, h, e, q⟩
theorem rd_ixT {p : Addr} {xs : List V} (h : SqT K H p xs) (e : atI xs i = some v) (q : Q v H) : rIxT K (.ref p) (.int i) H Q := ⟨p, xs, i, v, rfl, rfl, h, e, q⟩
theorem rd_ixS {z : Str} {c : Nat} (hz : z.length ≤ sizeLine) (e : atI z.cps.toList i = some c) (q : Q (.str ⟨#[c]⟩) H) : rIxS (.str z) (.int i) H Q := ⟨z, i, c, rfl, rfl, hz, e, q⟩
theorem rd_lenL {p : Addr} {xs : List V} (h : SqL K H p xs) (q : Q (.int xs.length) H) : rLenSeq K [.ref p] H Q := ⟨p, xs, rfl, .inl h, q⟩
theorem rd_lenT {p : Addr} {xs : List V} (h : SqT K H p xs) (q : Q (.int xs.length) H) : rLenSeq K [.ref p] H Q := ⟨p, xs, rfl, .inr h, q⟩
theorem rd_lenS {z : Str} (hz : z.length ≤ sizeLine) (q : Q (.int z.length) H) : rLenStr [.str z] H Q := ⟨z, rfl, hz, q⟩
theorem rd_abs (q : Q (.int (if i < 0 then -i else i)) H) : rAbs [.int i] H Q := ⟨i, rfl, q⟩
theorem rd_int (q : Q (.int i) H) : rInt1 [.int i] H Q := .inl ⟨i, rfl, q⟩
theorem rd_max (q : Q (.int (if j > i then j else i)) H) : rMaxI [.int i, .int j] H Q := ⟨i, j, rfl, q⟩
theorem rd_min (q : Q (.int (if j < i then j else i)) H) : rMinI [.int i, .int j] H Q := ⟨i, j, rfl, q⟩
theorem rd_strS {z : Str} (q : Q (.str z) H) : rStrS [.str z] H Q := ⟨z, rfl, q⟩
theorem rd_listL {p : Addr} {xs : List V} (h : SqL K H p xs) (q : ∀ l, H l = none → Q (.ref l) (upd H l (.lst xs))) : rListOf K [.ref p] H Q := ⟨p, xs, rfl, .inl h, q⟩
theorem rd_listT {p : Addr} {xs : List V} (h : SqT K H p xs) (q : ∀ l, H l = none → Q (.ref l) (upd H l (.lst xs))) : rListOf K [.ref p] H Q := ⟨p, xs, rfl, .inr h, q⟩
theorem rd_addS {z w : Str} (hz : z.length + w.length ≤ sizeLine) (q : Q (.str (z ++ w)) H) : rAddStr (.str z) (.str w) H Q := ⟨z, w, rfl, rfl, hz, q⟩
theorem rd_inSign {c : Nat} {z : Str} (q : Q (.bl (decide (c ∈ z.cps.toList))) H) : rInSign (.str ⟨#[c]⟩) (.str z) H Q := ⟨c, z, rfl, rfl, q⟩
theorem rd_notInSign {c : Nat} {z : Str} (q : Q (.bl (!decide (c ∈ z.cps.toList))) H) : rNotInSign (.str ⟨#[c]⟩) (.str z) H Q := ⟨c, z, rfl, rfl, q⟩
theorem rd_tup (h : tt σ H fun xs H1 => xs.length ≤ sizeLine ∧ ∀ p, H1 p = none → Q (.ref p) (upd H1 p (.tup xs))) : tTup tt σ H Q := h
theorem rd_lst (h : tt σ H fun xs H1 => xs.length ≤ sizeLine ∧ ∀ p, H1 p = none → Q (.ref p) (upd H1 p (.lst xs))) : tLst tt σ H Q := h
theorem sz_of {n : Nat} (h : n ≤ 100000) : n ≤ sizeLine := Nat.le_trans h (by decide)
theorem sz_lt {n : Nat} (h : n < 100000) : n < sizeLine := Nat.lt_of_lt_of_le h (by decide)
theorem rd_new {xs : List V} {P : Addr → Prop} (e : xs.length ≤ sizeLine) (h : ∀ p, P p) : xs.length ≤ sizeLine ∧ ∀ p, P p := ⟨e, h⟩
theorem rd_slL {p : Addr} {xs : List V} {lo hi : Option Int} (h : SqL K H p xs) (q : ∀ l, H l = none → Q (.ref l) (upd H l (.lst (cutV xs lo hi)))) : rSlL K (.ref p) lo hi H Q := ⟨p, xs, rfl, h, q⟩
theorem rd_slS {z : Str} {lo hi : Option Int} (hz : z.length ≤ sizeLine) (q : Q (.str (cutS z lo hi)) H) : rSlS (.str z) lo hi H Q := ⟨z, rfl, hz, q⟩
theorem rd_sl {r : V → Option Int → Option Int → Hp → VK → Prop} {tl th : TO} (h : te σ H fun x H1 => tl σ H1 fun l H2 => th σ H2 fun u H3 => r x l u H3 Q) : tSl r te tl th σ H Q := h
theorem rd_noPart {P : Option Int → Hp → Prop} (h : P none H) : tNoPart σ H P := h
theorem rd_part {P : Option Int → Hp → Prop} (h : te σ H fun x H1 => ∃ i, x = .int i ∧ P (some i) H1) : tPart te σ H P := h
theorem rd_isInt {P : Int → Prop} (h : P i) : ∃ k, V.int i = .int k ∧ P k := ⟨i, rfl, h⟩
/-- an attribute -/
def FldK (K : PySem.W.Frag) (f : Str) (x : V) (H : Hp) (Q : VK) : Prop := ∃ a C dx fs v, x = .ref a ∧ H a = some (.ins C dx fs) ∧ Cls K C ∧ NoAttr K C f ∧ fs.lookup f = some v ∧ Q v H
theorem rd_fld (h : ta σ H fun x H1 => FldK K f x H1 Q) : tFld K ta f σ H Q := h
theorem rd_fldK {a C dx : Addr} {fs : List (Str × V)} (e : H a = some (.ins C dx fs)) (c : Cls K C) (n : NoAttr K C f) (l : fs.lookup f = some v) (q : Q v H) : FldK K f (.ref a) H Q := ⟨a, C, dx, fs, v, rfl, e, c, n, l, q⟩
def SFldK (K : PySem.W.Frag) (f : Str) (y x : V) (H : Hp) (P : Hp → Prop) : Prop := ∃ a C dx fs, x = .ref a ∧ H a = some (.ins C dx fs) ∧ Cls K C ∧ NoAttr K C f ∧ fs.length < 1000 ∧ P (upd H a (.ins C dx (putF f y fs)))
theorem rd_sfld (h : tv σ H fun y H1 => ta σ H1 fun x H2 => SFldK K f y x H2 (D.nx σ)) : sFld K ta tv f D σ H := h
theorem rd_sfldK {a C dx : Addr} {fs : List (Str × V)} {P : Hp → Prop} (e : H a = some (.ins C dx fs)) (c : Cls K C) (n : NoAttr K C f) (l : fs.length < 1000) (q : P (upd H a (.ins C dx (putF f y fs)))) : SFldK K f y (.ref a) H P := ⟨a, C, dx, fs, rfl, e, c, n, l, q⟩
/-- e.f += n, ints -/
theorem rd_sfldAdd {a C dx : Addr} {fs : List (Str × V)} (ha : ta σ H fun x H1 => x = .ref a ∧ H1 = H) (e : H a = some (.ins C dx fs)) (c : Cls K C) (n : NoAttr K C f) (l : fs.lookup f = some (.int i)) (hv : tv σ H fun y H1 => y = .int j ∧ H1 = H)
    (mt : ∀ Q Q' : VK, (∀ v H, Q v H → Q' v H) → tv σ H Q → tv σ H Q') (ma : ∀ Q Q' : VK, (∀ v H, Q v H → Q' v H) → ta σ H Q → ta σ H Q') (hl : fs.length < 1000) (q : D.nx σ (upd H a (.ins C dx (putF f (.int (i + j)) fs)))) : sFldAug K ta tv rAdd f D σ H :=
  ma _ _ (fun x H1 ⟨ex, eh⟩ => by
    subst ex eh
    refine ⟨a, C, dx, fs, .int i, rfl, e, c, n, l, mt _ _ (fun y H2 ⟨ey, eh⟩ => ?_) hv⟩
    subst ey eh
    exact ⟨i, j, rfl, rfl, dx, fs, e, hl, q⟩) ha
def AugK (K : PySem.W.Frag) (f : Str) (tv : TE) (rd : V → V → Hp → VK → Prop) (σ : L2.St) (x : V) (H1 : Hp) (P : Hp → Prop) : Prop := ∃ a C dx fs v, x = .ref a ∧ H1 a = some (.ins C dx fs) ∧ Cls K C ∧ NoAttr K C f ∧ fs.lookup f = some v ∧
  tv σ H1 fun y H2 => rd v y H2 fun z H3 => ∃ dx' fs', H3 a = some (.ins C dx' fs') ∧ fs'.length < 1000 ∧ P (upd H3 a (.ins C dx' (putF f z fs')))
theorem rd_aug {rd : V → V → Hp → VK → Prop} (h : ta σ H fun x H1 => AugK K f tv rd σ x H1 (D.nx σ)) : sFldAug K ta tv rd f D σ H := h
theorem rd_augK {rd : V → V → Hp → VK → Prop} {a C dx : Addr} {fs : List (Str × V)} {P : Hp → Prop} (e : H a = some (.ins C dx fs)) (c : Cls K C) (n : NoAttr K C f) (l : fs.lookup f = some v)
    (q : tv σ H fun y H2 => rd v y H2 fun z H3 => ∃ dx' fs', H3 a = some (.ins C dx' fs') ∧ fs'.length < 1000 ∧ P (upd H3 a (.ins C dx' (putF f z fs')))) : AugK K f tv rd σ (.ref a) H P := ⟨a, C, dx, fs, v, rfl, e, c, n, l, q⟩
theorem rd_rAdd (q : Q (.int (i + j)) H) : rAdd (.int i) (.int j) H Q := ⟨i, j, rfl, rfl, q⟩
theorem rd_augE {a C dx : Addr} {fs : List (Str × V)} {P : Addr → List (Str × V) → Prop} (e : H a = some (.ins C dx fs)) (l : fs.length < 1000) (q : P dx fs) : ∃ dx' fs', H a = some (.ins C dx' fs') ∧ fs'.length < 1000 ∧ P dx' fs' := ⟨dx, fs, e, l, q⟩
/-- calls -/
theorem rd_call {sp : Sp} {E : XK} (h : tt σ H fun vs H1 => sp (vs ++ []) H1 Q E) : tCall sp [] E tt σ H Q := h
def MethK (C : Addr) (m : Str) (sp : Sp) (E : XK) (t : TA) (σ : L2.St) (x : V) (H1 : Hp) (Q : VK) : Prop := ∃ a dx fs, x = .ref a ∧ H1 a = some (.ins C dx fs) ∧ fs.lookup m = none ∧ t σ H1 fun vs H2 => sp (x :: (vs ++ [])) H2 Q E
theorem rd_meth {C : Addr} {m : Str} {sp : Sp} {E : XK} (h : ta σ H fun x H1 => MethK C m sp E tt σ x H1 Q) : tMeth C m sp [] E ta tt σ H Q := h
theorem rd_methK {C a dx : Addr} {m : Str} {sp : Sp} {E : XK} {fs : List (Str × V)} (e : H a = some (.ins C dx fs)) (l : fs.lookup m = none) (q : tt σ H fun vs H2 => sp (.ref a :: (vs ++ [])) H2 Q E) : MethK C m sp E tt σ (.ref a) H Q := ⟨a, dx, fs, rfl, e, l, q⟩
theorem rd_make {C : Addr} {sp : Sp} {E : XK} (h : tt σ H fun vs H1 => ∀ x dx, H1 x = none → H1 dx = none → dx ≠ x → sp (.ref x :: (vs ++ [])) (upd (upd H1 dx (.own x)) x (.ins C dx [])) (fun v H2 => v = .non ∧ Q (.ref x) H2) E) : tMake C sp [] E tt σ H Q := h
theorem rd_makeL {C : Addr} {sp : Sp} {E : XK} (e : σ[n]? = some (some (.ref C))) (h : tMake C sp [] E tt σ H Q) : tMakeL n C sp E tt σ H Q := ⟨e, h⟩
theorem rd_smeth {C : Addr} {sp : Sp} {E : XK} (h : ta σ H fun x H1 => x = .ref C ∧ tt σ H1 fun vs H2 => sp (vs ++ []) H2 Q E) : tSMeth C sp E ta tt σ H Q := h
theorem rd_isC {C : Addr} {P : Prop} (h : P) : V.ref C = .ref C ∧ P := ⟨rfl, h⟩
theorem rd_smethK {C : Addr} {sp : Sp} {E : XK} {gV : List V → List V → List V} (h : ta σ H fun x H1 => x = .ref C ∧ tt σ H1 fun zs H2 => sp (gV [] zs) H2 Q E) : tSMethK C sp gV E ta tt σ H Q := h
theorem rd_cmeth {C : Addr} {sp : Sp} {E : XK} (h : ta σ H fun x H1 => x = .ref C ∧ tt σ H1 fun vs H2 => sp (.ref C :: vs) H2 Q E) : ClX.tCMeth C sp E ta tt σ H Q := h
theorem rd_cmethK {C : Addr} {sp : Sp} {E : XK} {gV : List V → List V → List V} (h : ta σ H fun x H1 => x = .ref C ∧ tt σ H1 fun zs H2 => sp (gV [.ref C] zs) H2 Q E) : tCMethK C sp gV E ta tt σ H Q := h
/-- methods of built-in types -/
def BmK (K : PySem.W.Frag) (T : String) (r : V → List V → Hp → VK → Prop) (t : TA) (σ : L2.St) (x : V) (H1 : Hp) (Q : VK) : Prop := tyV K T x H1 ∧ t σ H1 fun xs H2 => r x xs H2 Q
theorem rd_bm {T : String} {r : V → List V → Hp → VK → Prop} (h : ta σ H fun x H1 => BmK K T r tt σ x H1 Q) : tBM K T r ta tt σ H Q := h
theorem rd_bmL {r : V → List V → Hp → VK → Prop} {p : Addr} {xs : List V} (e : H p = some (.lst xs)) (q : tt σ H fun xs H2 => r (.ref p) xs H2 Q) : BmK K "list" r tt σ (.ref p) H Q := ⟨.inl ⟨rfl, _, SqL.of e⟩, q⟩
def Bm0K (K : PySem.W.Frag) (T : String) (r : V → List V → Hp → VK → Prop) (x : V) (H1 : Hp) (Q : VK) : Prop := tyV K T x H1 ∧ r x [] H1 Q
theorem rd_bm0 {T : String} {r : V → List V → Hp → VK → Prop} (h : ta σ H fun x H1 => Bm0K K T r x H1 Q) : tBM0 K T r ta σ H Q := h
theorem rd_bm0L {r : V → List V → Hp → VK → Prop} {p : Addr} {xs : List V} (e : H p = some (.lst xs)) (q : r (.ref p) [] H Q) : Bm0K K "list" r (.ref p) H Q := ⟨.inl ⟨rfl, _, SqL.of e⟩, q⟩
theorem rd_append {p : Addr} {xs : List V} (e : H p = some (.lst xs)) (l : xs.length < sizeLine) (q : Q .non (upd H p (.lst (xs ++ [y])))) : rAppend (.ref p) [y] H Q := ⟨p, xs, y, rfl, rfl, e, l, q⟩
theorem rd_clear {p : Addr} {xs : List V} (e : H p = some (.lst xs)) (q : Q .non (upd H p (.lst []))) : rClear (.ref p) [] H Q := ⟨p, xs, rfl, rfl, e, q⟩
theorem rd_pop {p : Addr} {xs : List V} (e : H p = some (.lst xs)) (l : xs[xs.length - 1]? = some y) (q : Q y (upd H p (.lst xs.dropLast))) : rPop (.ref p) [] H Q := ⟨p, xs, y, rfl, rfl, e, l, q⟩
theorem rd_setL {p : Addr} {xs : List V} {m : Nat} {P : Hp → Prop} (e : H p = some (.lst xs)) (l : ixN xs.length i = some m) (q : P (upd H p (.lst (xs.set m v)))) : rSetL (.ref p) (.int i) v H P := ⟨p, xs, i, m, rfl, rfl, e, l, q⟩
theorem rd_gsub {to ti : TE} {ts : TSet} (h : to σ H fun o H1 => ti σ H1 fun i H2 => ts o i v H2 fun H3 => k σ H3) : gSub to ti ts v σ H k := h
theorem rd_gtup {a : Addr} {xs : List V} {m : Nat} {ts : TGs} (e : SqT K H a xs) (l : xs.length = m) (q : ts xs σ H k) : gTup K m ts (.ref a) σ H k := ⟨a, xs, rfl, e, l, q⟩
theorem rd_gcons {r : List V} {ts : TGs} (h : g v σ H fun σ' H' => ts r σ' H' k) : gCons g ts (v :: r) σ H k := ⟨v, r, rfl, h⟩
theorem rd_gnil (h : k σ H) : gNil [] σ H k := ⟨rfl, h⟩
theorem rd_isi {x c : V} {t u : Value} (k : ClsV c u) (ty : TyX K H x t) (e : PySem.W.kitOne K t u = some b) (q : Q (.bl b) H) : rIsi K [x, c] H Q := ⟨x, c, t, u, b, rfl, k, ty, e, q⟩
theorem rd_inSeqL {p : Addr} {xs : List V} {neg : Bool} (h : SqL K H p xs) (fx : flatV x = true) (fa : xs.all flatV = true) (q : Q (.bl (if neg then !inV x xs else inV x xs)) H) : rIn K neg x (.ref p) H Q := ⟨p, xs, rfl, .inl h, fx, fa, q⟩
theorem rd_inSeqT {p : Addr} {xs : List V} {neg : Bool} (h : SqT K H p xs) (fx : flatV x = true) (fa : xs.all flatV = true) (q : Q (.bl (if neg then !inV x xs else inV x xs)) H) : rIn K neg x (.ref p) H Q := ⟨p, xs, rfl, .inr h, fx, fa, q⟩
theorem rd_eqD {d e : PyData} (hx : Dp K H x d) (hy : Dp K H y e) (s1 : SeqAt.shaped d = true) (s2 : SeqAt.shaped e = true) (q : Q (.bl (PyData.eqv d e)) H) : rEqD K x y H Q := ⟨d, e, hx, hy, s1, s2, q⟩
theorem rd_neD {d e : PyData} (hx : Dp K H x d) (hy : Dp K H y e) (s1 : SeqAt.shaped d = true) (s2 : SeqAt.shaped e = true) (q : Q (.bl (!PyData.eqv d e)) H) : rNeD K x y H Q := ⟨d, e, hx, hy, s1, s2, q⟩
theorem ifT {A B : Prop} (e : b = true) (h : A) : if b = true then A else B := by
  rw [if_pos e]
  exact h
theorem ifF {A B : Prop} (e : b = false) (h : B) : if b = true then A else B := by
  rw [e, if_neg Bool.false_ne_true]
  exact h
theorem ifB {A B : Prop} (h1 : b = true → A) (h2 : b = false → B) : if b = true then A else B := by
  cases b with
  | true => exact ifT rfl (h1 rfl)
  | false => exact ifF rfl (h2 rfl)
/-- an if on a decision -/
theorem ifD {c : Prop} [Decidable c] {A B : Prop} (h1 : c → A) (h2 : ¬ c → B) : if decide c = true then A else B := by
  by_cases h : c
  · exact ifT (decide_eq_true h) (h1 h)
  · exact ifF (decide_eq_false h) (h2 h)
theorem ifN {c : Prop} [Decidable c] {A B : Prop} (h1 : ¬ c → A) (h2 : c → B) : if (!decide c) = true then A else B := by
  by_cases h : c
  · exact ifF (by rw [decide_eq_true h]; rfl) (h2 h)
  · exact ifT (by rw [decide_eq_false h]; rfl) (h1 h)
end

/-! ### loops -/
def ForK (J : It) (g : TG) (tb : TS) (D : Ends) (σ : L2.St) (H1 : Hp) : Prop := ∃ W : Nat → Nat → L2.St → Hp → Prop, (∃ m, W 0 m σ H1) ∧ ∀ i m σ H, W i m σ H →
  (J.stop i H ∧ D.nx σ H) ∨ (J.go i H ∧ ∃ N : L2.St → Hp → Prop, (∀ σ' H', N σ' H' → ∃ m', m' < m ∧ W (i + 1) m' σ' H') ∧ ∀ x H', J.yld i H x H' → g x σ H' fun σ2 H2 => tb { D with nx := N, ct := N, bk := D.nx } σ2 H2)
section
variable {K : PySem.W.Frag} {σ : L2.St} {H : Hp} {g : TG} {tb : TS} {D : Ends} {a : Addr} {xs : List V} {tl : TE} {ta : TA} {R : It → Hp → Prop}
theorem rd_for {wi : TI} (h : wi σ H fun J H1 => ForK J g tb D σ H1) : tFor wi g tb D σ H := h
def IList (K : PySem.W.Frag) (x : V) (H : Hp) (R : It → Hp → Prop) : Prop := ∃ a, x = .ref a ∧ (∃ xs, SqL K H a xs) ∧ R (Itl K a) H
def ITup (K : PySem.W.Frag) (x : V) (H : Hp) (R : It → Hp → Prop) : Prop := ∃ a, x = .ref a ∧ (∃ xs, SqT K H a xs) ∧ R (Itt K a) H
theorem rd_iList (h : tl σ H fun x H1 => IList K x H1 R) : iList K tl σ H R := h
theorem rd_IList (h : SqL K H a xs) (q : R (Itl K a) H) : IList K (.ref a) H R := ⟨a, rfl, ⟨xs, h⟩, q⟩
theorem rd_iTup (h : tl σ H fun x H1 => ITup K x H1 R) : iTup K tl σ H R := h
theorem rd_ITup (h : SqT K H a xs) (q : R (Itt K a) H) : ITup K (.ref a) H R := ⟨a, rfl, ⟨xs, h⟩, q⟩
def IEnum (K : PySem.W.Frag) (vs : List V) (H : Hp) (R : It → Hp → Prop) : Prop := ∃ a xs, vs = [.ref a] ∧ SqL K H a xs ∧ R (Ite K a) H
theorem rd_iEnum (h : ta σ H fun vs H1 => IEnum K vs H1 R) : iEnum K ta σ H R := h
theorem rd_IEnum (h : SqL K H a xs) (q : R (Ite K a) H) : IEnum K [.ref a] H R := ⟨a, xs, rfl, h, q⟩
def IRng1 (vs : List V) (H : Hp) (R : It → Hp → Prop) : Prop := ∃ j : Int, vs = [.int j] ∧ -(2 ^ 62) ≤ j ∧ j < 2 ^ 62 ∧ R (Itr 0 j.toNat) H
theorem rd_iRng1 (h : ta σ H fun vs H1 => IRng1 vs H1 R) : iRng1 ta σ H R := h
theorem rd_IRng1 {j : Int} (h : -(2 ^ 62) ≤ j) (h2 : j < 2 ^ 62) (q : R (Itr 0 j.toNat) H) : IRng1 [.int j] H R := ⟨j, rfl, h, h2, q⟩
def IRng2 (vs : List V) (H : Hp) (R : It → Hp → Prop) : Prop := ∃ i j : Int, vs = [.int i, .int j] ∧ (-(2 ^ 62) ≤ i ∧ i < 2 ^ 62 ∧ -(2 ^ 62) ≤ j ∧ j < 2 ^ 62) ∧ R (Itr i (j - i).toNat) H
theorem rd_iRng2 (h : ta σ H fun vs H1 => IRng2 vs H1 R) : iRng2 ta σ H R := h
theorem rd_IRng2 {i j : Int} (h : -(2 ^ 62) ≤ i ∧ i < 2 ^ 62 ∧ -(2 ^ 62) ≤ j ∧ j < 2 ^ 62) (q : R (Itr i (j - i).toNat) H) : IRng2 [.int i, .int j] H R := ⟨i, j, rfl, h, q⟩
theorem fk_list (Pv : Nat → L2.St → Hp → Prop) (h0 : Pv 0 σ H) (hl : ∀ i σ H, i ≤ xs.length → Pv i σ H → SqL K H a xs)
    (hs : ∀ i x σ H, xs[i]? = some x → Pv i σ H → g x σ H fun σ2 H2 => tb { D with nx := Pv (i + 1), ct := Pv (i + 1), bk := D.nx } σ2 H2) (hd : ∀ σ H, Pv xs.length σ H → D.nx σ H) : ForK (Itl K a) g tb D σ H := for_list Pv h0 hl hs hd
theorem fk_tup (Pv : Nat → L2.St → Hp → Prop) (h0 : Pv 0 σ H) (hl : ∀ i σ H, i ≤ xs.length → Pv i σ H → SqT K H a xs)
    (hs : ∀ i x σ H, xs[i]? = some x → Pv i σ H → g x σ H fun σ2 H2 => tb { D with nx := Pv (i + 1), ct := Pv (i + 1), bk := D.nx } σ2 H2) (hd : ∀ σ H, Pv xs.length σ H → D.nx σ H) : ForK (Itt K a) g tb D σ H := for_tup Pv h0 hl hs hd
theorem fk_range {n : Nat} (Pv : Nat → L2.St → Hp → Prop) (h0 : Pv 0 σ H)
    (hs : ∀ (i : Nat) σ H, i < n → Pv i σ H → g (.int (i : Int)) σ H fun σ2 H2 => tb { D with nx := Pv (i + 1), ct := Pv (i + 1), bk := D.nx } σ2 H2) (hd : ∀ σ H, Pv n σ H → D.nx σ H) : ForK (Itr 0 n) g tb D σ H :=
  for_range Pv h0 (fun i σ H hi p => by
    have e : (0 : Int) + (i : Int) = (i : Int) := Int.zero_add _
    rw [e]
    exact hs i σ H hi p) hd
theorem fk_range2 {lo : Int} {n : Nat} (Pv : Nat → L2.St → Hp → Prop) (h0 : Pv 0 σ H)
    (hs : ∀ (i : Nat) σ H, i < n → Pv i σ H → g (.int (lo + (i : Int))) σ H fun σ2 H2 => tb { D with nx := Pv (i + 1), ct := Pv (i + 1), bk := D.nx } σ2 H2) (hd : ∀ σ H, Pv n σ H → D.nx σ H) : ForK (Itr lo n) g tb D σ H :=
  for_range Pv h0 hs hd
theorem fk_enum (Pv : Nat → L2.St → Hp → Prop) (h0 : Pv 0 σ H) (hl : ∀ i σ H, i ≤ xs.length → Pv i σ H → SqL K H a xs)
    (hs : ∀ (i : Nat) x T σ H, xs[i]? = some x → H T = none → Pv i σ H → g (.ref T) σ (upd H T (.tup [.int (i : Nat), x])) fun σ2 H2 => tb { D with nx := Pv (i + 1), ct := Pv (i + 1), bk := D.nx } σ2 H2) (hd : ∀ σ H, Pv xs.length σ H → D.nx σ H) : ForK (Ite K a) g tb D σ H := by
  refine ⟨fun i m σ H => m = xs.length - i ∧ i ≤ xs.length ∧ Pv i σ H, ⟨xs.length, by simp, Nat.zero_le _, h0⟩, ?_⟩
  rintro i m σ H ⟨rfl, hi, p⟩
  have q := hl i σ H hi p
  by_cases hlt : i < xs.length
  · refine .inr ⟨⟨xs, xs[i], q, by simp [hlt]⟩, Pv (i + 1), fun σ' H' p' => ⟨xs.length - (i + 1), by omega, rfl, hlt, p'⟩, fun x H' y => ?_⟩
    obtain ⟨T, z, rfl, hT, rfl, y⟩ := y
    exact hs i z T σ _ (y xs q) hT p
  · have e : i = xs.length := by omega
    subst e
    exact .inl ⟨⟨xs, q, Nat.le_refl _⟩, hd σ H p⟩
/-! ### comprehensions -/
def LcK (J : It) (g : TG) (tt : TT) (te : TE) (vs : List Nat) (σ : L2.St) (H1 : Hp) (Q : VK) : Prop := ∀ D, H1 D = none → ∃ W : Nat → Nat → Hp → Prop, (∃ m, W 0 m (upd H1 D (.lst []))) ∧ ∀ i m H, W i m H →
  (J.stop i H ∧ Q (.ref D) H) ∨ (J.go i H ∧ ∃ Nx : Hp → Prop, (∀ H', Nx H' → ∃ m', m' < m ∧ W (i + 1) m' H') ∧ ∀ x H', J.yld i H x H' → g x (wipe σ vs) H' fun σ2 H2 => wipe σ2 vs = wipe σ vs ∧ tt σ2 H2 fun b H3 =>
    if b = true then te σ2 H3 fun y H4 => ∃ acc, H4 D = some (.lst acc) ∧ acc.length < sizeLine ∧ Nx (upd H4 D (.lst (acc ++ [y]))) else Nx H3)
variable {tt : TT} {te : TE} {vs : List Nat} {Q : VK}
theorem rd_lc {wi : TI} (h : wi σ H fun J H1 => LcK J g tt te vs σ H1 Q) : tLc wi g tt te vs σ H Q := h
/-- what stands in the new list behind n turns -/
theorem filter_take_succ {ρ : Type} {rows : List ρ} {i : Nat} {r : ρ} (f : ρ → Bool) (h : rows[i]? = some r) : (rows.take (i + 1)).filter f = (rows.take i).filter f ++ (if f r then [r] else []) := by
  rw [List.take_add_one, h, List.filter_append]
  congr 1
  simp [List.filter]
  split <;> simp_all
theorem small_len {ρ α : Type} {rows : List ρ} {n : Nat} (f : ρ → Bool) (v : ρ → α) (h : rows.length ≤ n) (i : Nat) : (((rows.take i).filter f).map v).length ≤ n := by
  rw [List.length_map]
  have h1 := List.length_filter_le f (rows.take i)
  have h2 : (rows.take i).length ≤ rows.length := by rw [List.length_take]; omega
  omega
theorem lcRows {ρ : Type} {rows : List ρ} {J : It} {n : Nat} (hn : n = rows.length) (hz : n ≤ 100000) (f : ρ → Bool) (v : ρ → V)
    (hst : ∀ H', Same H H' → J.stop n H') (hgo : ∀ i H', Same H H' → i < n → J.go i H')
    (turn : ∀ i r H1, rows[i]? = some r → Same H H1 → ∀ x H2, J.yld i H1 x H2 → ∀ (Done : Hp → Prop) (Kept : VK), (∀ H3, Same H1 H3 → f r = false → Done H3) → (∀ H3, Same H1 H3 → f r = true → Kept (v r) H3) →
      g x (wipe σ vs) H2 fun σ2 H2 => wipe σ2 vs = wipe σ vs ∧ tt σ2 H2 fun b H3 => if b = true then te σ2 H3 Kept else Done H3)
    (q : ∀ D H', H D = none → Same H H' → H' D = some (.lst ((rows.filter f).map v)) → Q (.ref D) H') : LcK J g tt te vs σ H Q := by
  intro D hD
  refine ⟨fun i m H' => m = n - i ∧ i ≤ n ∧ Same H H' ∧ H' D = some (.lst (((rows.take i).filter f).map v)), ⟨n, by simp, Nat.zero_le _, same_new hD, upd_same⟩, ?_⟩
  rintro i m H1 ⟨rfl, hi, s1, h1⟩
  by_cases hlt : i < n
  · refine .inr ⟨hgo i H1 s1 hlt, fun H' => i + 1 ≤ n ∧ Same H H' ∧ H' D = some (.lst (((rows.take (i + 1)).filter f).map v)), fun H' p' => ⟨n - (i + 1), by omega, rfl, p'⟩, fun x H2 y => ?_⟩
    have hr : i < rows.length := by omega
    refine turn i rows[i] H1 (List.getElem?_eq_getElem hr) s1 x H2 y _ _ (fun H3 s3 hf => ?_) (fun H3 s3 hf => ?_)
    · refine ⟨hlt, s1.trans s3, ?_⟩
      rw [filter_take_succ f (List.getElem?_eq_getElem hr), hf]
      simp only [Bool.false_eq_true, if_false, List.append_nil]
      exact s3 _ _ h1
    · refine ⟨_, s3 _ _ h1, ?_, hlt, same_mut (s1.trans s3) hD, ?_⟩
      · have := small_len (rows := rows) (n := n) f v (by omega) i
        rw [sizeLine_eq]
        omega
      · rw [filter_take_succ f (List.getElem?_eq_getElem hr), hf]
        simp only [if_true, List.map_append, List.map_cons, List.map_nil]
        exact upd_same
  · have e : i = n := by omega
    subst e
    refine .inl ⟨hst H1 s1, q D H1 hD s1 ?_⟩
    rw [h1, hn, List.take_length]
/-- over a list that stands -/
theorem lcL {ρ : Type} {rows : List ρ} (hn : xs.length = rows.length) (hz : xs.length ≤ 100000) (hx : SqL K H a xs) (f : ρ → Bool) (v : ρ → V)
    (turn : ∀ (i : Nat) x r H1, xs[i]? = some x → rows[i]? = some r → Same H H1 → ∀ (Done : Hp → Prop) (Kept : VK), (∀ H3, Same H1 H3 → f r = false → Done H3) → (∀ H3, Same H1 H3 → f r = true → Kept (v r) H3) →
      g x (wipe σ vs) H1 fun σ2 H2 => wipe σ2 vs = wipe σ vs ∧ tt σ2 H2 fun b H3 => if b = true then te σ2 H3 Kept else Done H3)
    (q : ∀ D H', H D = none → Same H H' → H' D = some (.lst ((rows.filter f).map v)) → Q (.ref D) H') : LcK (Itl K a) g tt te vs σ H Q := by
  refine lcRows hn hz f v (fun H' s => ⟨xs, s.seq hx, Nat.le_refl _⟩) (fun i H' s hi => ⟨xs, xs[i], s.seq hx, by simp [hi]⟩) (fun i r H1 hr s1 x H2 y Done Kept hd hk => ?_) q
  obtain ⟨rfl, y⟩ := y
  exact turn i x r _ (y xs (s1.seq hx)) hr s1 Done Kept hd hk
theorem lcT {ρ : Type} {rows : List ρ} (hn : xs.length = rows.length) (hz : xs.length ≤ 100000) (hx : SqT K H a xs) (f : ρ → Bool) (v : ρ → V)
    (turn : ∀ (i : Nat) x r H1, xs[i]? = some x → rows[i]? = some r → Same H H1 → ∀ (Done : Hp → Prop) (Kept : VK), (∀ H3, Same H1 H3 → f r = false → Done H3) → (∀ H3, Same H1 H3 → f r = true → Kept (v r) H3) →
      g x (wipe σ vs) H1 fun σ2 H2 => wipe σ2 vs = wipe σ vs ∧ tt σ2 H2 fun b H3 => if b = true then te σ2 H3 Kept else Done H3)
    (q : ∀ D H', H D = none → Same H H' → H' D = some (.lst ((rows.filter f).map v)) → Q (.ref D) H') : LcK (Itt K a) g tt te vs σ H Q := by
  refine lcRows hn hz f v (fun H' s => ⟨xs, sqT_same s hx, Nat.le_refl _⟩) (fun i H' s hi => ⟨xs, xs[i], sqT_same s hx, by simp [hi]⟩) (fun i r H1 hr s1 x H2 y Done Kept hd hk => ?_) q
  obtain ⟨rfl, y⟩ := y
  exact turn i x r _ (y xs (sqT_same s1 hx)) hr s1 Done Kept hd hk
theorem lcR {n : Nat} (hz : n ≤ 100000) (f : Nat → Bool) (v : Nat → V)
    (turn : ∀ (i : Nat) H1, i < n → Same H H1 → ∀ (Done : Hp → Prop) (Kept : VK), (∀ H3, Same H1 H3 → f i = false → Done H3) → (∀ H3, Same H1 H3 → f i = true → Kept (v i) H3) →
      g (.int (i : Int)) (wipe σ vs) H1 fun σ2 H2 => wipe σ2 vs = wipe σ vs ∧ tt σ2 H2 fun b H3 => if b = true then te σ2 H3 Kept else Done H3)
    (q : ∀ D H', H D = none → Same H H' → H' D = some (.lst (((List.range n).filter f).map v)) → Q (.ref D) H') : LcK (Itr 0 n) g tt te vs σ H Q := by
  refine lcRows (rows := List.range n) (by simp) hz f v (fun H' s => Nat.le_refl _) (fun i H' s hi => hi) (fun i r H1 hr s1 x H2 y Done Kept hd hk => ?_) q
  obtain ⟨rfl, rfl⟩ := y
  have hi : i < n := by
    have := (List.getElem?_eq_some_iff.mp hr).1
    simpa using this
  have er : r = i := by
    rw [List.getElem?_range hi] at hr
    exact (Option.some.inj hr).symm
  subst er
  have e : (0 : Int) + (r : Int) = (r : Int) := Int.zero_add _
  rw [e]
  exact turn r _ hi s1 Done Kept hd hk
theorem rd_yes {P : Bool → Hp → Prop} (h : P true H) : tYes σ H P := h
end
section
variable {K : PySem.W.Frag} {H : Hp} {Q : VK}
theorem kit_int_int : PySem.W.kitOne K (.type "int") (.type "int") = some true := kit_ty (by decide +kernel)
theorem kit_int_bool : PySem.W.kitOne K (.type "int") (.type "bool") = some false := kit_ty (by decide +kernel)
theorem kit_int_str : PySem.W.kitOne K (.type "int") (.type "str") = some false := kit_ty (by decide +kernel)
theorem kit_int_list : PySem.W.kitOne K (.type "int") (.type "list") = some false := kit_ty (by decide +kernel)
theorem kit_int_tuple : PySem.W.kitOne K (.type "int") (.type "tuple") = some false := kit_ty (by decide +kernel)
theorem kit_bool_int : PySem.W.kitOne K (.type "bool") (.type "int") = some true := kit_ty (by decide +kernel)
theorem kit_bool_bool : PySem.W.kitOne K (.type "bool") (.type "bool") = some true := kit_ty (by decide +kernel)
theorem kit_bool_str : PySem.W.kitOne K (.type "bool") (.type "str") = some false := kit_ty (by decide +kernel)
theorem kit_bool_list : PySem.W.kitOne K (.type "bool") (.type "list") = some false := kit_ty (by decide +kernel)
theorem kit_bool_tuple : PySem.W.kitOne K (.type "bool") (.type "tuple") = some false := kit_ty (by decide +kernel)
theorem kit_str_int : PySem.W.kitOne K (.type "str") (.type "int") = some false := kit_ty (by decide +kernel)
theorem kit_str_bool : PySem.W.kitOne K (.type "str") (.type "bool") = some false := kit_ty (by decide +kernel)
theorem kit_str_str : PySem.W.kitOne K (.type "str") (.type "str") = some true := kit_ty (by decide +kernel)
theorem kit_str_list : PySem.W.kitOne K (.type "str") (.type "list") = some false := kit_ty (by decide +kernel)
theorem kit_str_tuple : PySem.W.kitOne K (.type "str") (.type "tuple") = some false := kit_ty (by decide +kernel)
theorem kit_list_int : PySem.W.kitOne K (.type "list") (.type "int") = some false := kit_ty (by decide +kernel)
theorem kit_list_bool : PySem.W.kitOne K (.type "list") (.type "bool") = some false := kit_ty (by decide +kernel)
theorem kit_list_str : PySem.W.kitOne K (.type "list") (.type "str") = some false := kit_ty (by decide +kernel)
theorem kit_list_list : PySem.W.kitOne K (.type "list") (.type "list") = some true := kit_ty (by decide +kernel)
theorem kit_list_tuple : PySem.W.kitOne K (.type "list") (.type "tuple") = some false := kit_ty (by decide +kernel)
theorem kit_tuple_int : PySem.W.kitOne K (.type "tuple") (.type "int") = some false := kit_ty (by decide +kernel)
theorem kit_tuple_bool : PySem.W.kitOne K (.type "tuple") (.type "bool") = some false := kit_ty (by decide +kernel)
theorem kit_tuple_str : PySem.W.kitOne K (.type "tuple") (.type "str") = some false := kit_ty (by decide +kernel)
theorem kit_tuple_list : PySem.W.kitOne K (.type "tuple") (.type "list") = some false := kit_ty (by decide +kernel)
theorem kit_tuple_tuple : PySem.W.kitOne K (.type "tuple") (.type "tuple") = some true := kit_ty (by decide +kernel)
theorem kit_NoneType_int : PySem.W.kitOne K (.type "NoneType") (.type "int") = some false := kit_ty (by decide +kernel)
theorem kit_NoneType_bool : PySem.W.kitOne K (.type "NoneType") (.type "bool") = some false := kit_ty (by decide +kernel)
theorem kit_NoneType_str : PySem.W.kitOne K (.type "NoneType") (.type "str") = some false := kit_ty (by decide +kernel)
theorem kit_NoneType_list : PySem.W.kitOne K (.type "NoneType") (.type "list") = some false := kit_ty (by decide +kernel)
theorem kit_NoneType_tuple : PySem.W.kitOne K (.type "NoneType") (.type "tuple") = some false := kit_ty (by decide +kernel)
theorem rd_isi_int_int {i : Int} (q : Q (.bl true) H) : rIsi K [(.int i), .ty "int"] H Q := rd_isi (.ty _) (.base (.int _)) kit_int_int q
theorem rd_isi_int_bool {i : Int} (q : Q (.bl false) H) : rIsi K [(.int i), .ty "bool"] H Q := rd_isi (.ty _) (.base (.int _)) kit_int_bool q
theorem rd_isi_int_str {i : Int} (q : Q (.bl false) H) : rIsi K [(.int i), .ty "str"] H Q := rd_isi (.ty _) (.base (.int _)) kit_int_str q
theorem rd_isi_int_list {i : Int} (q : Q (.bl false) H) : rIsi K [(.int i), .ty "list"] H Q := rd_isi (.ty _) (.base (.int _)) kit_int_list q
theorem rd_isi_int_tuple {i : Int} (q : Q (.bl false) H) : rIsi K [(.int i), .ty "tuple"] H Q := rd_isi (.ty _) (.base (.int _)) kit_int_tuple q
theorem rd_isi_bool_int {i : Bool} (q : Q (.bl true) H) : rIsi K [(.bl i), .ty "int"] H Q := rd_isi (.ty _) (.base (.bl _)) kit_bool_int q
theorem rd_isi_bool_bool {i : Bool} (q : Q (.bl true) H) : rIsi K [(.bl i), .ty "bool"] H Q := rd_isi (.ty _) (.base (.bl _)) kit_bool_bool q
theorem rd_isi_bool_str {i : Bool} (q : Q (.bl false) H) : rIsi K [(.bl i), .ty "str"] H Q := rd_isi (.ty _) (.base (.bl _)) kit_bool_str q
theorem rd_isi_bool_list {i : Bool} (q : Q (.bl false) H) : rIsi K [(.bl i), .ty "list"] H Q := rd_isi (.ty _) (.base (.bl _)) kit_bool_list q
theorem rd_isi_bool_tuple {i : Bool} (q : Q (.bl false) H) : rIsi K [(.bl i), .ty "tuple"] H Q := rd_isi (.ty _) (.base (.bl _)) kit_bool_tuple q
theorem rd_isi_str_int {i : Str} (q : Q (.bl false) H) : rIsi K [(.str i), .ty "int"] H Q := rd_isi (.ty _) (.base (.str _)) kit_str_int q
theorem rd_isi_str_bool {i : Str} (q : Q (.bl false) H) : rIsi K [(.str i), .ty "bool"] H Q := rd_isi (.ty _) (.base (.str _)) kit_str_bool q
theorem rd_isi_str_str {i : Str} (q : Q (.bl true) H) : rIsi K [(.str i), .ty "str"] H Q := rd_isi (.ty _) (.base (.str _)) kit_str_str q
theorem rd_isi_str_list {i : Str} (q : Q (.bl false) H) : rIsi K [(.str i), .ty "list"] H Q := rd_isi (.ty _) (.base (.str _)) kit_str_list q
theorem rd_isi_str_tuple {i : Str} (q : Q (.bl false) H) : rIsi K [(.str i), .ty "tuple"] H Q := rd_isi (.ty _) (.base (.str _)) kit_str_tuple q
theorem rd_isi_list_int {p : Addr} {xs : List V} (e : H p = some (.lst xs)) (q : Q (.bl false) H) : rIsi K [(.ref p), .ty "int"] H Q := rd_isi (.ty _) (.base (.lst e)) kit_list_int q
theorem rd_isi_list_bool {p : Addr} {xs : List V} (e : H p = some (.lst xs)) (q : Q (.bl false) H) : rIsi K [(.ref p), .ty "bool"] H Q := rd_isi (.ty _) (.base (.lst e)) kit_list_bool q
theorem rd_isi_list_str {p : Addr} {xs : List V} (e : H p = some (.lst xs)) (q : Q (.bl false) H) : rIsi K [(.ref p), .ty "str"] H Q := rd_isi (.ty _) (.base (.lst e)) kit_list_str q
theorem rd_isi_list_list {p : Addr} {xs : List V} (e : H p = some (.lst xs)) (q : Q (.bl true) H) : rIsi K [(.ref p), .ty "list"] H Q := rd_isi (.ty _) (.base (.lst e)) kit_list_list q
theorem rd_isi_list_tuple {p : Addr} {xs : List V} (e : H p = some (.lst xs)) (q : Q (.bl false) H) : rIsi K [(.ref p), .ty "tuple"] H Q := rd_isi (.ty _) (.base (.lst e)) kit_list_tuple q
theorem rd_isi_tuple_int {p : Addr} {xs : List V} (e : H p = some (.tup xs)) (q : Q (.bl false) H) : rIsi K [(.ref p), .ty "int"] H Q := rd_isi (.ty _) (.base (.tup e)) kit_tuple_int q
theorem rd_isi_tuple_bool {p : Addr} {xs : List V} (e : H p = some (.tup xs)) (q : Q (.bl false) H) : rIsi K [(.ref p), .ty "bool"] H Q := rd_isi (.ty _) (.base (.tup e)) kit_tuple_bool q
theorem rd_isi_tuple_str {p : Addr} {xs : List V} (e : H p = some (.tup xs)) (q : Q (.bl false) H) : rIsi K [(.ref p), .ty "str"] H Q := rd_isi (.ty _) (.base (.tup e)) kit_tuple_str q
theorem rd_isi_tuple_list {p : Addr} {xs : List V} (e : H p = some (.tup xs)) (q : Q (.bl false) H) : rIsi K [(.ref p), .ty "list"] H Q := rd_isi (.ty _) (.base (.tup e)) kit_tuple_list q
theorem rd_isi_tuple_tuple {p : Addr} {xs : List V} (e : H p = some (.tup xs)) (q : Q (.bl true) H) : rIsi K [(.ref p), .ty "tuple"] H Q := rd_isi (.ty _) (.base (.tup e)) kit_tuple_tuple q
theorem rd_isi_NoneType_int  (q : Q (.bl false) H) : rIsi K [.non, .ty "int"] H Q := rd_isi (.ty _) (.base .non) kit_NoneType_int q
theorem rd_isi_NoneType_bool  (q : Q (.bl false) H) : rIsi K [.non, .ty "bool"] H Q := rd_isi (.ty _) (.base .non) kit_NoneType_bool q
theorem rd_isi_NoneType_str  (q : Q (.bl false) H) : rIsi K [.non, .ty "str"] H Q := rd_isi (.ty _) (.base .non) kit_NoneType_str q
theorem rd_isi_NoneType_list  (q : Q (.bl false) H) : rIsi K [.non, .ty "list"] H Q := rd_isi (.ty _) (.base .non) kit_NoneType_list q
theorem rd_isi_NoneType_tuple  (q : Q (.bl false) H) : rIsi K [.non, .ty "tuple"] H Q := rd_isi (.ty _) (.base .non) kit_NoneType_tuple q
theorem rd_isi_own {C a dx : Addr} {fs : List (Str × V)} (T : TyC K C) (e : H a = some (.ins C dx fs)) (q : Q (.bl true) H) : rIsi K [.ref a, .ref C] H Q := rd_isi (.own _) (.base (T.at e)) kit_self q
end
/-! ### texts by their codes -/
def tx (l : List Nat) : Str := ⟨l.toArray⟩
theorem tx_list (l : List Nat) : (tx l).cps.toList = l := rfl
theorem tx_len (l : List Nat) : (tx l).length = l.length := by simp [tx, Str.length]
theorem tx_app (l m : List Nat) : tx l ++ tx m = tx (l ++ m) := PyProof.Rows.str_of_list (by rw [PyProof.Rows.cps_toList_append]; rfl)
theorem tx_of (z : Str) : z = tx z.cps.toList := PyProof.Rows.str_of_list rfl
theorem tx_inj {l m : List Nat} : tx l = tx m ↔ l = m := ⟨fun h => by have := congrArg (fun z => z.cps.toList) h; exact this, fun h => by rw [h]⟩
def smalls : List Nat := [97, 98, 99, 100, 101, 102, 103, 104, 105, 106, 107, 108, 109, 110, 111, 112, 113, 114, 115, 116, 117, 118, 119, 120, 121, 122]
def capitals : List Nat := [65, 66, 67, 68, 69, 70, 71, 72, 73, 74, 75, 76, 77, 78, 79, 80, 81, 82, 83, 84, 85, 86, 87, 88, 89, 90]
theorem smalls_eq : (Str.ofString "abcdefghijklmnopqrstuvwxyz") = tx smalls := by decide +kernel
theorem capitals_eq : (Str.ofString "ABCDEFGHIJKLMNOPQRSTUVWXYZ") = tx capitals := by decide +kernel
theorem atI_mem {α : Type} {xs : List α} {i : Int} (h0 : 0 ≤ i) (h1 : i < (xs.length : Int)) : ∃ z, atI xs i = some z ∧ z ∈ xs := by
  have e : i.toNat < xs.length := by omega
  refine ⟨xs[i.toNat], ?_, List.getElem_mem e⟩
  unfold atI ixN
  rw [if_pos h0, if_pos h1]
  simp [e]
theorem empty_tx : Str.empty = tx [] := rfl
theorem sg_tx (c : Nat) : (⟨#[c]⟩ : Str) = tx [c] := rfl
section
variable {σ : L2.St} {H : Hp} {te : TE} {ts : List TE} {QS : Str → Hp → Prop} {Q : VK}
def JsK (ts : List TE) (acc : Str) (σ : L2.St) (x : V) (H1 : Hp) (Q : Str → Hp → Prop) : Prop := ∃ y : Str, x = .str y ∧ (acc ++ y).length ≤ sizeLine ∧ tJs ts (acc ++ y) σ H1 Q
theorem rd_jsC {acc : Str} (h : te σ H fun x H1 => JsK ts acc σ x H1 QS) : tJs (te :: ts) acc σ H QS := h
theorem rd_jsN {acc : Str} (h : QS acc H) : tJs [] acc σ H QS := h
theorem rd_JsK {l m : List Nat} (h : l.length + m.length ≤ 100000) (k : tJs ts (tx (l ++ m)) σ H QS) : JsK ts (tx l) σ (.str (tx m)) H QS := by
  have e : (tx (l ++ m)).length = l.length + m.length := by rw [tx_len, List.length_append]
  exact ⟨tx m, rfl, by rw [tx_app, e]; exact sz_of h, by rw [tx_app]; exact k⟩
def FmtK (x : V) (H1 : Hp) (Q : VK) : Prop := (∃ y : Str, x = .str y ∧ y.length ≤ sizeLine ∧ Q (.str y) H1) ∨ ∃ i : Int, x = .int i ∧ i.natAbs.log2 < 1920 ∧ Q (.str (toString i)) H1
theorem rd_fmt (h : te σ H fun x H1 => FmtK x H1 Q) : tFmt te σ H Q := h
theorem rd_fmtS {y : Str} (h : y.length ≤ sizeLine) (k : Q (.str y) H) : FmtK (.str y) H Q := .inl ⟨y, rfl, h, k⟩
theorem rd_fmtT {l : List Nat} (h : l.length ≤ 100000) (k : Q (.str (tx l)) H) : FmtK (.str (tx l)) H Q := .inl ⟨_, rfl, by rw [tx_len]; exact sz_of h, k⟩
theorem rd_addT {l m : List Nat} (hz : l.length + m.length ≤ 100000) (q : Q (.str (tx (l ++ m))) H) : rAddStr (.str (tx l)) (.str (tx m)) H Q := by
  refine rd_addS (by rw [tx_len, tx_len]; exact sz_of hz) ?_
  rw [tx_app]
  exact q
theorem rd_lenTx {l : List Nat} (hz : l.length ≤ 100000) (q : Q (.int (l.length : Nat)) H) : rLenStr [.str (tx l)] H Q := by
  refine rd_lenS (by rw [tx_len]; exact sz_of hz) ?_
  rw [tx_len]
  exact q
theorem eq_tx {l m : List Nat} : decide (V.str (tx l) = V.str (tx m)) = decide (l = m) := by
  have e : (V.str (tx l) = V.str (tx m)) ↔ l = m := ⟨fun h => tx_inj.mp (by injection h), fun h => by rw [h]⟩
  simp only [e]
theorem rd_eqTx {l m : List Nat} (q : Q (.bl (decide (l = m))) H) : rEq (.str (tx l)) (.str (tx m)) H Q := rd_eq rfl (by rw [eq_tx]; exact q)
theorem rd_neTx {l m : List Nat} (q : Q (.bl (!decide (l = m))) H) : rNe (.str (tx l)) (.str (tx m)) H Q := rd_ne rfl (by rw [eq_tx]; exact q)
theorem rd_inTx {c : Nat} {l : List Nat} (q : Q (.bl (decide (c ∈ l))) H) : rInSign (.str (tx [c])) (.str (tx l)) H Q := rd_inSign q
theorem rd_notInTx {c : Nat} {l : List Nat} (q : Q (.bl (!decide (c ∈ l))) H) : rNotInSign (.str (tx [c])) (.str (tx l)) H Q := rd_notInSign q
theorem atI_at {α : Type} {xs : List α} {i : Nat} {c : α} (h : xs[i]? = some c) : atI xs (i : Int) = some c := by
  have e := (List.getElem?_eq_some_iff.mp h).1
  unfold atI ixN
  rw [if_pos (by omega), if_pos (by omega)]
  simpa using h
theorem rd_ixTx {l : List Nat} {i : Nat} {c : Nat} (hz : l.length ≤ 100000) (h : l[i]? = some c) (q : Q (.str (tx [c])) H) : rIxS (.str (tx l)) (.int (i : Nat)) H Q := rd_ixS (by rw [tx_len]; exact sz_of hz) (atI_at h) q
theorem sIx_nat {n d i : Nat} (h : i ≤ n) : HT.sIx n d (some (i : Int)) = i := by
  rw [HT.sIx_nat]
  omega
theorem cutS_tx {l : List Nat} {i j : Nat} (hi : i ≤ l.length) (hj : j ≤ l.length) : cutS (tx l) (some (i : Int)) (some (j : Int)) = tx ((l.drop i).take (j - i)) := by
  unfold cutS
  rw [tx_len, sIx_nat hi, sIx_nat hj] <;> rfl
theorem rd_cutTx {l : List Nat} {i j : Nat} (hz : l.length ≤ 100000) (hi : i ≤ l.length) (hj : j ≤ l.length) (q : Q (.str (tx ((l.drop i).take (j - i)))) H) : rSlS (.str (tx l)) (some (i : Int)) (some (j : Int)) H Q := by
  refine rd_slS (by rw [tx_len]; exact sz_of hz) ?_
  rw [cutS_tx hi hj]
  exact q
end
section
variable {X : Cx} {K : PySem.W.Frag}
theorem ix_listK (h : X.K = K := by rfl) : IxR X (rIxL K) := h ▸ ix_list
theorem ix_tupK (h : X.K = K := by rfl) : IxR X (rIxT K) := h ▸ ix_tup
theorem op_inSeqK (h : X.K = K := by rfl) : OpR X (compareOp .In) (rIn K false) := h ▸ op_in_seq
theorem op_notInSeqK (h : X.K = K := by rfl) : OpR X (compareOp .NotIn) (rIn K true) := h ▸ op_notIn_seq
theorem op_eqDK (hu : X.A.units + 64 < cLine) (h : X.K = K := by rfl) : OpR X (compareOp .Eq) (rEqD K) := h ▸ op_eqD hu
theorem op_neDK (hu : X.A.units + 64 < cLine) (h : X.K = K := by rfl) : OpR X (compareOp .NotEq) (rNeD K) := h ▸ op_neD hu
theorem call_lenSeqK (h : X.K = K := by rfl) : CallR X (.builtin "len") (rLenSeq K) := h ▸ call_lenSeq
theorem call_listOfK (h : X.K = K := by rfl) : CallR X (.type "list") (rListOf K) := h ▸ call_listOf
theorem call_isi_K (h : X.K = K := by rfl) : CallR X (.builtin "isinstance") (rIsi K) := h ▸ call_isi
theorem pe_fldK {e : Expr} {f : Str} {pos : Pos} {ta : TE} (he : PE X e ta) (hb : attributeBase e f X.env (eval e X.env) = eval e X.env) (h : X.K = K := by rfl) : PE X (.Attribute e f pos) (tFld K ta f) := h ▸ pe_fld he hb
theorem pe_cvalK {e : Expr} {f : Str} {pos : Pos} {ta : TE} (he : PE X e ta) (hb : attributeBase e f X.env (eval e X.env) = eval e X.env := by rfl) (h : X.K = K := by rfl) : PE X (.Attribute e f pos) (ClX.tCVal K ta f) := h ▸ ClX.pe_cval he hb
end
theorem units65 {k : Nat} {A : Around} (r : Room k A) : A.units + 65 < cLine := by have := r.un; omega
end Hk

namespace K31
open PySem L2 Hk
def top (i : Nat) : Stmt := PySem.Challenge.pw_heirsback_k31_leaves_and_requests.main.body.getD i (.Pass ⟨0, 0, 0, 0⟩)
abbrev s_Expression_init : Stmt := inClass (top 14) 0
theorem sc_Expression_init : FnScope ["self", "text", "program"] ["self", "text", "program"] (defScope s_Expression_init) := ⟨rfl, rfl, rfl, by decide +kernel, rfl, by decide +kernel, by decide +kernel⟩
abbrev s_Expression_leaf : Stmt := inClass (top 14) 1
theorem sc_Expression_leaf : FnScope ["label", "name"] ["label", "name"] (defScope s_Expression_leaf) := ⟨rfl, rfl, rfl, by decide +kernel, rfl, by decide +kernel, by decide +kernel⟩
abbrev s_Expression_asked : Stmt := inClass (top 14) 2
theorem sc_Expression_asked : FnScope ["name", "word"] ["name", "word"] (defScope s_Expression_asked) := ⟨rfl, rfl, rfl, by decide +kernel, rfl, by decide +kernel, by decide +kernel⟩
abbrev s_Expression_read : Stmt := inClass (top 14) 3
theorem sc_Expression_read : FnScope ["cls", "text", "program"] ["cls", "text"] (defScope s_Expression_read) := ⟨rfl, rfl, rfl, by decide +kernel, rfl, by decide +kernel, by decide +kernel⟩
abbrev s_Expression_signs : Stmt := inClass (top 14) 4
theorem sc_Expression_signs : FnScope ["self", "row"] ["self"] (defScope s_Expression_signs) := ⟨rfl, rfl, rfl, by decide +kernel, rfl, by decide +kernel, by decide +kernel⟩
abbrev s_Expression_leaves : Stmt := inClass (top 14) 5
theorem sc_Expression_leaves : FnScope ["self", "found", "kind", "label", "name"] ["self"] (defScope s_Expression_leaves) := ⟨rfl, rfl, rfl, by decide +kernel, rfl, by decide +kernel, by decide +kernel⟩
abbrev s_Expression_len : Stmt := inClass (top 14) 7
theorem sc_Expression_len : FnScope ["self", "row"] ["self"] (defScope s_Expression_len) := ⟨rfl, rfl, rfl, by decide +kernel, rfl, by decide +kernel, by decide +kernel⟩
abbrev s_Expression_str : Stmt := inClass (top 14) 8
theorem sc_Expression_str : FnScope ["self"] ["self"] (defScope s_Expression_str) := ⟨rfl, rfl, rfl, by decide +kernel, rfl, by decide +kernel, by decide +kernel⟩
abbrev s_Expression_eq : Stmt := inClass (top 14) 9
theorem sc_Expression_eq : FnScope ["self", "other"] ["self", "other"] (defScope s_Expression_eq) := ⟨rfl, rfl, rfl, by decide +kernel, rfl, by decide +kernel, by decide +kernel⟩
abbrev s_count_steps : Stmt := top 15
theorem sc_count_steps : FnScope ["program", "row"] ["program"] (defScope s_count_steps) := ⟨rfl, rfl, rfl, by decide +kernel, rfl, by decide +kernel, by decide +kernel⟩
abbrev s_Reader_init : Stmt := inClass (top 19) 0
theorem sc_Reader_init : FnScope ["self", "text"] ["self", "text"] (defScope s_Reader_init) := ⟨rfl, rfl, rfl, by decide +kernel, rfl, by decide +kernel, by decide +kernel⟩
abbrev s_Reader_whole : Stmt := inClass (top 19) 1
theorem sc_Reader_whole : FnScope ["self"] ["self"] (defScope s_Reader_whole) := ⟨rfl, rfl, rfl, by decide +kernel, rfl, by decide +kernel, by decide +kernel⟩
abbrev s_Reader_here : Stmt := inClass (top 19) 2
theorem sc_Reader_here : FnScope ["self"] ["self"] (defScope s_Reader_here) := ⟨rfl, rfl, rfl, by decide +kernel, rfl, by decide +kernel, by decide +kernel⟩
abbrev s_Reader_skip : Stmt := inClass (top 19) 3
theorem sc_Reader_skip : FnScope ["self", "some"] ["self", "some"] (defScope s_Reader_skip) := ⟨rfl, rfl, rfl, by decide +kernel, rfl, by decide +kernel, by decide +kernel⟩
abbrev s_Reader_letters : Stmt := inClass (top 19) 4
theorem sc_Reader_letters : FnScope ["self", "many", "begin"] ["self", "many"] (defScope s_Reader_letters) := ⟨rfl, rfl, rfl, by decide +kernel, rfl, by decide +kernel, by decide +kernel⟩
abbrev s_Reader_is_opened : Stmt := inClass (top 19) 6
theorem sc_Reader_is_opened : FnScope ["self", "letter", "word"] ["self"] (defScope s_Reader_is_opened) := ⟨rfl, rfl, rfl, by decide +kernel, rfl, by decide +kernel, by decide +kernel⟩
abbrev s_Reader_class_name : Stmt := inClass (top 19) 7
theorem sc_Reader_class_name : FnScope ["self", "begin"] ["self"] (defScope s_Reader_class_name) := ⟨rfl, rfl, rfl, by decide +kernel, rfl, by decide +kernel, by decide +kernel⟩
abbrev s_Reader_read_request : Stmt := inClass (top 19) 8
theorem sc_Reader_read_request : FnScope ["self", "name", "word"] ["self"] (defScope s_Reader_read_request) := ⟨rfl, rfl, rfl, by decide +kernel, rfl, by decide +kernel, by decide +kernel⟩
abbrev s_Reader_close : Stmt := inClass (top 19) 9
theorem sc_Reader_close : FnScope ["self", "sign", "many"] ["self"] (defScope s_Reader_close) := ⟨rfl, rfl, rfl, by decide +kernel, rfl, by decide +kernel, by decide +kernel⟩
abbrev s_law_bag : Stmt := top 21
theorem sc_law_bag : FnScope ["_law_script", "_law_at", "_law_cell", "_law_mixed", "_law_k", "_law_each"] ["_law_script", "_law_at"] (defScope s_law_bag) := ⟨rfl, rfl, rfl, by decide +kernel, rfl, by decide +kernel, by decide +kernel⟩
abbrev s_law_take : Stmt := top 22
theorem sc_law_take : FnScope ["_law_bag_here", "_law_many", "_law_digit"] ["_law_bag_here", "_law_many"] (defScope s_law_take) := ⟨rfl, rfl, rfl, by decide +kernel, rfl, by decide +kernel, by decide +kernel⟩
abbrev s_law_of : Stmt := top 23
theorem sc_law_of : FnScope ["_law_bag_here", "_law_some"] ["_law_bag_here", "_law_some"] (defScope s_law_of) := ⟨rfl, rfl, rfl, by decide +kernel, rfl, by decide +kernel, by decide +kernel⟩
abbrev s_law_letters : Stmt := top 24
theorem sc_law_letters : FnScope ["_law_bag_here", "_law_first", "_law_many", "_law_found", "_law_turn"] ["_law_bag_here", "_law_first", "_law_many"] (defScope s_law_letters) := ⟨rfl, rfl, rfl, by decide +kernel, rfl, by decide +kernel, by decide +kernel⟩
abbrev s_law_number : Stmt := top 25
theorem sc_law_number : FnScope ["_law_x", "_law_due"] ["_law_x", "_law_due"] (defScope s_law_number) := ⟨rfl, rfl, rfl, by decide +kernel, rfl, by decide +kernel, by decide +kernel⟩
abbrev s_law_leaf_right : Stmt := top 26
theorem sc_law_leaf_right : FnScope ["_law_bag_here", "_law_tag", "_law_kind", "_law_one", "_law_line", "_law_other", "_law_told", "_law_back"] ["_law_bag_here"] (defScope s_law_leaf_right) := ⟨rfl, rfl, rfl, by decide +kernel, rfl, by decide +kernel, by decide +kernel⟩
abbrev s_law_asked_right : Stmt := top 27
theorem sc_law_asked_right : FnScope ["_law_bag_here", "_law_ask", "_law_kind", "_law_one", "_law_line", "_law_told", "_law_back"] ["_law_bag_here"] (defScope s_law_asked_right) := ⟨rfl, rfl, rfl, by decide +kernel, rfl, by decide +kernel, by decide +kernel⟩
abbrev s_law : Stmt := top 28
theorem sc_law : FnScope ["_law_script", "_law_at", "_law_bag_here", "_law_turn"] ["_law_script"] (defScope s_law) := ⟨rfl, rfl, rfl, by decide +kernel, rfl, by decide +kernel, by decide +kernel⟩
structure Ad where
  f_Expression_init : Addr
  fd_Expression_init : FuncData
  f_Expression_leaf : Addr
  fd_Expression_leaf : FuncData
  f_Expression_asked : Addr
  fd_Expression_asked : FuncData
  f_Expression_read : Addr
  fd_Expression_read : FuncData
  p_Expression_read : Addr
  f_Expression_signs : Addr
  fd_Expression_signs : FuncData
  f_Expression_leaves : Addr
  fd_Expression_leaves : FuncData
  f_Expression_len : Addr
  fd_Expression_len : FuncData
  f_Expression_str : Addr
  fd_Expression_str : FuncData
  f_Expression_eq : Addr
  fd_Expression_eq : FuncData
  f_count_steps : Addr
  fd_count_steps : FuncData
  f_Reader_init : Addr
  fd_Reader_init : FuncData
  f_Reader_whole : Addr
  fd_Reader_whole : FuncData
  f_Reader_here : Addr
  fd_Reader_here : FuncData
  f_Reader_skip : Addr
  fd_Reader_skip : FuncData
  f_Reader_letters : Addr
  fd_Reader_letters : FuncData
  f_Reader_is_opened : Addr
  fd_Reader_is_opened : FuncData
  f_Reader_class_name : Addr
  fd_Reader_class_name : FuncData
  f_Reader_read_request : Addr
  fd_Reader_read_request : FuncData
  f_Reader_close : Addr
  fd_Reader_close : FuncData
  f_law_bag : Addr
  fd_law_bag : FuncData
  f_law_take : Addr
  fd_law_take : FuncData
  f_law_of : Addr
  fd_law_of : FuncData
  f_law_letters : Addr
  fd_law_letters : FuncData
  f_law_number : Addr
  fd_law_number : FuncData
  f_law_leaf_right : Addr
  fd_law_leaf_right : FuncData
  f_law_asked_right : Addr
  fd_law_asked_right : FuncData
  f_law : Addr
  fd_law : FuncData
  C_Expression : Addr
  C_Reader : Addr
  t_MOST : Tok
  t_SMALL : Tok
  t_CAPITAL : Tok
  t_LONGEST : Tok
  t_LEAF : Tok
  t_ASKED : Tok
  a_UNARY_SIGNS : Addr
  t_DONE : Tok
structure Txt (K : PySem.W.Frag) (mg : Str → Option Value) (a : Ad) : Prop where
  F_Expression_init : Fun K "__init__" "Expression.__init__" s_Expression_init a.f_Expression_init a.fd_Expression_init
  b_Expression_init : Binds K a.fd_Expression_init ["self", "text", "program"] []
  m_Expression_init : Meth K a.C_Expression "__init__" a.f_Expression_init
  F_Expression_leaf : Fun K "leaf" "Expression.leaf" s_Expression_leaf a.f_Expression_leaf a.fd_Expression_leaf
  b_Expression_leaf : Binds K a.fd_Expression_leaf ["label", "name"] []
  sm_Expression_leaf : SMet K a.C_Expression (.type "type") "leaf" a.f_Expression_leaf
  kb_Expression_leaf_name_label : KBinds K a.fd_Expression_leaf ["label", "name"] ["name", "label"] kperm_0_10 kperm_0_10
  F_Expression_asked : Fun K "asked" "Expression.asked" s_Expression_asked a.f_Expression_asked a.fd_Expression_asked
  b_Expression_asked : Binds K a.fd_Expression_asked ["name", "word"] []
  sm_Expression_asked : SMet K a.C_Expression (.type "type") "asked" a.f_Expression_asked
  kb_Expression_asked_word_name : KBinds K a.fd_Expression_asked ["name", "word"] ["word", "name"] kperm_0_10 kperm_0_10
  F_Expression_read : Fun K "read" "Expression.read" s_Expression_read a.f_Expression_read a.fd_Expression_read
  b_Expression_read : Binds K a.fd_Expression_read ["cls", "text"] []
  cm_Expression_read : ClX.CMet K a.C_Expression (.type "type") "read" a.p_Expression_read a.f_Expression_read
  kb_Expression_read_text : KBinds K a.fd_Expression_read ["cls", "text"] ["text"] kperm_1_0 kperm_1_0
  F_Expression_signs : Fun K "signs" "Expression.signs" s_Expression_signs a.f_Expression_signs a.fd_Expression_signs
  b_Expression_signs : Binds K a.fd_Expression_signs ["self"] []
  m_Expression_signs : Meth K a.C_Expression "signs" a.f_Expression_signs
  F_Expression_leaves : Fun K "leaves" "Expression.leaves" s_Expression_leaves a.f_Expression_leaves a.fd_Expression_leaves
  b_Expression_leaves : Binds K a.fd_Expression_leaves ["self"] []
  m_Expression_leaves : Meth K a.C_Expression "leaves" a.f_Expression_leaves
  F_Expression_len : Fun K "__len__" "Expression.__len__" s_Expression_len a.f_Expression_len a.fd_Expression_len
  b_Expression_len : Binds K a.fd_Expression_len ["self"] []
  m_Expression_len : Meth K a.C_Expression "__len__" a.f_Expression_len
  F_Expression_str : Fun K "__str__" "Expression.__str__" s_Expression_str a.f_Expression_str a.fd_Expression_str
  b_Expression_str : Binds K a.fd_Expression_str ["self"] []
  m_Expression_str : Meth K a.C_Expression "__str__" a.f_Expression_str
  F_Expression_eq : Fun K "__eq__" "Expression.__eq__" s_Expression_eq a.f_Expression_eq a.fd_Expression_eq
  b_Expression_eq : Binds K a.fd_Expression_eq ["self", "other"] []
  m_Expression_eq : Meth K a.C_Expression "__eq__" a.f_Expression_eq
  F_count_steps : Fun K "count_steps" "count_steps" s_count_steps a.f_count_steps a.fd_count_steps
  b_count_steps : Binds K a.fd_count_steps ["program"] []
  g_count_steps : mg "count_steps" = some (.ref a.f_count_steps)
  F_Reader_init : Fun K "__init__" "Reader.__init__" s_Reader_init a.f_Reader_init a.fd_Reader_init
  b_Reader_init : Binds K a.fd_Reader_init ["self", "text"] []
  m_Reader_init : Meth K a.C_Reader "__init__" a.f_Reader_init
  F_Reader_whole : Fun K "whole" "Reader.whole" s_Reader_whole a.f_Reader_whole a.fd_Reader_whole
  b_Reader_whole : Binds K a.fd_Reader_whole ["self"] []
  m_Reader_whole : Meth K a.C_Reader "whole" a.f_Reader_whole
  F_Reader_here : Fun K "here" "Reader.here" s_Reader_here a.f_Reader_here a.fd_Reader_here
  b_Reader_here : Binds K a.fd_Reader_here ["self"] []
  m_Reader_here : Meth K a.C_Reader "here" a.f_Reader_here
  F_Reader_skip : Fun K "skip" "Reader.skip" s_Reader_skip a.f_Reader_skip a.fd_Reader_skip
  b_Reader_skip : Binds K a.fd_Reader_skip ["self", "some"] []
  m_Reader_skip : Meth K a.C_Reader "skip" a.f_Reader_skip
  F_Reader_letters : Fun K "letters" "Reader.letters" s_Reader_letters a.f_Reader_letters a.fd_Reader_letters
  b_Reader_letters : Binds K a.fd_Reader_letters ["self", "many"] []
  m_Reader_letters : Meth K a.C_Reader "letters" a.f_Reader_letters
  F_Reader_is_opened : Fun K "is_opened" "Reader.is_opened" s_Reader_is_opened a.f_Reader_is_opened a.fd_Reader_is_opened
  b_Reader_is_opened : Binds K a.fd_Reader_is_opened ["self"] []
  m_Reader_is_opened : Meth K a.C_Reader "is_opened" a.f_Reader_is_opened
  F_Reader_class_name : Fun K "class_name" "Reader.class_name" s_Reader_class_name a.f_Reader_class_name a.fd_Reader_class_name
  b_Reader_class_name : Binds K a.fd_Reader_class_name ["self"] []
  m_Reader_class_name : Meth K a.C_Reader "class_name" a.f_Reader_class_name
  F_Reader_read_request : Fun K "read_request" "Reader.read_request" s_Reader_read_request a.f_Reader_read_request a.fd_Reader_read_request
  b_Reader_read_request : Binds K a.fd_Reader_read_request ["self"] []
  m_Reader_read_request : Meth K a.C_Reader "read_request" a.f_Reader_read_request
  F_Reader_close : Fun K "close" "Reader.close" s_Reader_close a.f_Reader_close a.fd_Reader_close
  b_Reader_close : Binds K a.fd_Reader_close ["self"] []
  m_Reader_close : Meth K a.C_Reader "close" a.f_Reader_close
  F_law_bag : Fun K "_law_bag" "_law_bag" s_law_bag a.f_law_bag a.fd_law_bag
  b_law_bag : Binds K a.fd_law_bag ["_law_script", "_law_at"] []
  g_law_bag : mg "_law_bag" = some (.ref a.f_law_bag)
  F_law_take : Fun K "_law_take" "_law_take" s_law_take a.f_law_take a.fd_law_take
  b_law_take : Binds K a.fd_law_take ["_law_bag_here", "_law_many"] []
  g_law_take : mg "_law_take" = some (.ref a.f_law_take)
  F_law_of : Fun K "_law_of" "_law_of" s_law_of a.f_law_of a.fd_law_of
  b_law_of : Binds K a.fd_law_of ["_law_bag_here", "_law_some"] []
  g_law_of : mg "_law_of" = some (.ref a.f_law_of)
  F_law_letters : Fun K "_law_letters" "_law_letters" s_law_letters a.f_law_letters a.fd_law_letters
  b_law_letters : Binds K a.fd_law_letters ["_law_bag_here", "_law_first", "_law_many"] []
  g_law_letters : mg "_law_letters" = some (.ref a.f_law_letters)
  F_law_number : Fun K "_law_number" "_law_number" s_law_number a.f_law_number a.fd_law_number
  b_law_number : Binds K a.fd_law_number ["_law_x", "_law_due"] []
  g_law_number : mg "_law_number" = some (.ref a.f_law_number)
  F_law_leaf_right : Fun K "_law_leaf_right" "_law_leaf_right" s_law_leaf_right a.f_law_leaf_right a.fd_law_leaf_right
  b_law_leaf_right : Binds K a.fd_law_leaf_right ["_law_bag_here"] []
  g_law_leaf_right : mg "_law_leaf_right" = some (.ref a.f_law_leaf_right)
  F_law_asked_right : Fun K "_law_asked_right" "_law_asked_right" s_law_asked_right a.f_law_asked_right a.fd_law_asked_right
  b_law_asked_right : Binds K a.fd_law_asked_right ["_law_bag_here"] []
  g_law_asked_right : mg "_law_asked_right" = some (.ref a.f_law_asked_right)
  F_law : Fun K "law" "law" s_law a.f_law a.fd_law
  b_law : Binds K a.fd_law ["_law_script"] []
  g_law : mg "law" = some (.ref a.f_law)
  g_Expression : mg "Expression" = some (.ref a.C_Expression)
  cl_Expression : Cls K a.C_Expression
  ty_Expression : TyC K a.C_Expression
  cr_Expression : ClX.CRead K a.C_Expression (.type "type")
  mk_Expression : Mk K a.C_Expression a.f_Expression_init
  ne_Expression : NeC K a.C_Expression
  no_Expression_text : NoAttr K a.C_Expression "text"
  no_Expression_program : NoAttr K a.C_Expression "program"
  g_Reader : mg "Reader" = some (.ref a.C_Reader)
  cl_Reader : Cls K a.C_Reader
  ty_Reader : TyC K a.C_Reader
  cr_Reader : ClX.CRead K a.C_Reader (.type "type")
  mk_Reader : Mk K a.C_Reader a.f_Reader_init
  no_Reader_text : NoAttr K a.C_Reader "text"
  no_Reader_at : NoAttr K a.C_Reader "at"
  no_Reader_nested : NoAttr K a.C_Reader "nested"
  no_Reader_rows : NoAttr K a.C_Reader "rows"
  g_MOST : mg "MOST" = some (.int 100 a.t_MOST)
  g_SMALL : mg "SMALL" = some (.str "abcdefghijklmnopqrstuvwxyz" a.t_SMALL)
  g_CAPITAL : mg "CAPITAL" = some (.str "ABCDEFGHIJKLMNOPQRSTUVWXYZ" a.t_CAPITAL)
  g_LONGEST : mg "LONGEST" = some (.int 8 a.t_LONGEST)
  g_LEAF : mg "LEAF" = some (.str "leaf" a.t_LEAF)
  g_ASKED : mg "ASKED" = some (.str "asked" a.t_ASKED)
  g_UNARY_SIGNS : mg "UNARY_SIGNS" = some (.ref a.a_UNARY_SIGNS)
  q_UNARY_SIGNS : ∀ H : Hp, SqT K H a.a_UNARY_SIGNS [.str "neg", .str "pos", .str "abs", .str "invert"]
  g_DONE : mg "DONE" = some (.str "done" a.t_DONE)
  n_abs : mg "abs" = none
  n_bool : mg "bool" = none
  n_enumerate : mg "enumerate" = none
  n_int : mg "int" = none
  n_isinstance : mg "isinstance" = none
  n_len : mg "len" = none
  n_list : mg "list" = none
  n_max : mg "max" = none
  n_min : mg "min" = none
  n_range : mg "range" = none
  n_str : mg "str" = none
  n_tuple : mg "tuple" = none
local macro_rules | `(tactic| array_mem_dec) => `(tactic| first
  | assumption | exact upd_same
  | (apply upd_new; assumption; array_mem_dec)
  | (apply upd_old; tlg_ne; array_mem_dec)
  | (apply same_at; assumption; array_mem_dec))
local macro_rules | `(tactic| tlg_ne) => `(tactic| first
  | assumption | (apply Ne.symm; assumption)
  | (apply ne_new; assumption; array_mem_dec) | (apply ne_new'; assumption; array_mem_dec)
  | (apply ne_of; assumption; assumption; (intro z; cases z; done)))
local macro_rules | `(tactic| decreasing_trivial_pre_omega) => `(tactic| first
  | assumption | (apply sqL_of; array_mem_dec) | (apply sqT_of; array_mem_dec)
  | (apply Same.seq; assumption; decreasing_trivial_pre_omega) | (apply sqT_same; assumption; decreasing_trivial_pre_omega)
  | (apply sqL_new; assumption; decreasing_trivial_pre_omega) | (apply sqL_upd; tlg_ne; decreasing_trivial_pre_omega))
local macro_rules | `(tactic| kpt_turns) => `(tactic| first
  | assumption | exact Same.refl _ | (apply same_ext; kpt_turns; assumption) | (apply same_mut; kpt_turns; keq_hits) | (apply same_step; assumption; kpt_turns))
local macro_rules | `(tactic| keq_hits) => `(tactic| first | assumption | (apply same_none; assumption; keq_hits))
local macro_rules | `(tactic| sizeOf_list_dec) => `(tactic| first | (with_reducible assumption) | (with_reducible_and_instances omega) | (with_unfolding_all decide))
local macro_rules | `(tactic| array_get_dec) => `(tactic| first | (with_reducible assumption) | (apply sz_of; (with_unfolding_all simp); done) | (apply sz_of; omega) | (apply sz_lt; (with_unfolding_all simp); done) | (apply sz_lt; omega))
local macro_rules | `(tactic| keq_rows) => `(tactic| with_reducible first
  | refine rd_asgN ?_ | refine rd_seq ?_ | refine rd_asg ?_ | refine rd_gname ?_ | refine rd_op ?_ | refine rd_var (by with_unfolding_all rfl) ?_ | refine rd_c ?_ | refine rd_I0 ?_
  | refine rd_cons ?_ | refine rd_nil ?_ | refine rd_cb ?_ | refine rd_test ?_ | refine rd_bl ?_ | refine rd_fld ?_ | refine rd_drop ?_ | refine rd_ret ?_ | refine rd_retN ?_ | refine rd_next ?_
  | refine rd_ifS ?_ | refine rd_un ?_ | refine rd_B ?_ | refine rd_and ?_ | refine rd_or ?_ | refine rd_not ?_ | refine rd_andV ?_ | refine rd_orV ?_ | refine rd_notV ?_ | refine rd_if ?_
  | refine rd_int ?_ | refine rd_abs ?_ | refine rd_max ?_ | refine rd_min ?_ | refine rd_strS ?_ | refine rd_U ?_
  | refine rd_eqTx ?_ | refine rd_neTx ?_ | refine rd_inTx ?_ | refine rd_notInTx ?_ | refine rd_fmt ?_ | refine rd_fmtT (by omega) ?_ | refine rd_jsC ?_ | refine rd_jsN ?_ | refine rd_JsK (by (try simp); omega) ?_ | refine rd_addT (by (try simp); omega) ?_ | refine rd_lenTx (by omega) ?_
  | refine rd_eq (by with_unfolding_all rfl) ?_ | refine rd_ne (by with_unfolding_all rfl) ?_ | refine rd_isNone ?_ | refine rd_notNone ?_
  | refine rd_ixL (by decreasing_trivial_pre_omega) (by with_unfolding_all rfl) ?_ | refine rd_ixT (by decreasing_trivial_pre_omega) (by with_unfolding_all rfl) ?_
  | refine rd_lenL (by decreasing_trivial_pre_omega) ?_ | refine rd_lenT (by decreasing_trivial_pre_omega) ?_
  | refine rd_mod (by sizeOf_list_dec) ?_ | refine rd_div (by sizeOf_list_dec) (by sizeOf_list_dec) ?_ | refine rd_mulR (by sizeOf_list_dec) (by sizeOf_list_dec) ?_ | refine rd_mulL (by sizeOf_list_dec) (by sizeOf_list_dec) ?_ | refine rd_pow (by sizeOf_list_dec) ?_
  | refine rd_setL (by array_mem_dec) (by with_unfolding_all rfl) ?_
  | refine rd_slL (by decreasing_trivial_pre_omega) ?_ | refine rd_inSign ?_ | refine rd_notInSign ?_ | refine rd_tup ?_ | refine rd_lst ?_ | refine rd_sl ?_ | refine rd_noPart ?_ | refine rd_part ?_ | refine rd_isInt ?_
  | refine rd_gsub ?_ | refine rd_gcons ?_ | refine rd_gnil ?_ | refine rd_call ?_ | refine rd_meth ?_ | refine rd_make ?_ | refine rd_smeth ?_ | refine rd_isC ?_ | refine rd_smethK ?_ | refine rd_cmeth ?_ | refine rd_cmethK ?_
  | refine rd_bm ?_ | refine rd_bm0 ?_ | refine rd_bmL (by array_mem_dec) ?_ | refine rd_bm0L (by array_mem_dec) ?_ | refine rd_sfld ?_ | refine rd_aug ?_ | refine rd_rAdd ?_ | refine rd_brk ?_ | refine rd_cont ?_
  | refine rd_for ?_ | refine rd_iList ?_ | refine rd_IList (by decreasing_trivial_pre_omega) ?_ | refine rd_iTup ?_ | refine rd_ITup (by decreasing_trivial_pre_omega) ?_ | refine rd_iEnum ?_ | refine rd_IEnum (by decreasing_trivial_pre_omega) ?_ | refine rd_iRng1 ?_ | refine rd_IRng1 (by sizeOf_list_dec) (by sizeOf_list_dec) ?_
  | refine rd_new (by array_get_dec) ?_ | refine rd_lenS (by array_get_dec) ?_ | refine rd_addS (by array_get_dec) ?_ | refine rd_slS (by array_get_dec) ?_ | refine rd_lc ?_ | refine rd_yes ?_ | refine rd_gtup (by decreasing_trivial_pre_omega) (by with_unfolding_all rfl) ?_ | refine rd_makeL (by with_unfolding_all rfl) ?_)
local macro_rules | `(tactic| kas_types) => `(tactic| with_reducible first | refine rd_isi_int_int ?_ | refine rd_isi_int_bool ?_ | refine rd_isi_int_str ?_ | refine rd_isi_int_list ?_ | refine rd_isi_int_tuple ?_ | refine rd_isi_bool_int ?_ | refine rd_isi_bool_bool ?_ | refine rd_isi_bool_str ?_ | refine rd_isi_bool_list ?_ | refine rd_isi_bool_tuple ?_ | refine rd_isi_str_int ?_ | refine rd_isi_str_bool ?_ | refine rd_isi_str_str ?_ | refine rd_isi_str_list ?_ | refine rd_isi_str_tuple ?_ | refine rd_isi_list_int (by array_mem_dec) ?_ | refine rd_isi_list_bool (by array_mem_dec) ?_ | refine rd_isi_list_str (by array_mem_dec) ?_ | refine rd_isi_list_list (by array_mem_dec) ?_ | refine rd_isi_list_tuple (by array_mem_dec) ?_ | refine rd_isi_tuple_int (by array_mem_dec) ?_ | refine rd_isi_tuple_bool (by array_mem_dec) ?_ | refine rd_isi_tuple_str (by array_mem_dec) ?_ | refine rd_isi_tuple_list (by array_mem_dec) ?_ | refine rd_isi_tuple_tuple (by array_mem_dec) ?_ | refine rd_isi_NoneType_int ?_ | refine rd_isi_NoneType_bool ?_ | refine rd_isi_NoneType_str ?_ | refine rd_isi_NoneType_list ?_ | refine rd_isi_NoneType_tuple ?_)
local macro_rules | `(tactic| lcg_src) => `(tactic| repeat keq_rows)

section
variable {P : Program} {w : World} {K : PySem.W.Frag} {mg : Str → Option Value} {base : Heap} {a : Ad}
/-- a draw: the bag's two numbers turn, the answer lies below n -/
def sp_law_take : Sp := fun vs H Q _ => ∃ (b : Addr) (d m n : Int), vs = [.ref b, .int n] ∧ H b = some (.lst [.int d, .int m]) ∧ 0 < n ∧ n < 2 ^ 100 ∧
  ∀ r d' m' : Int, 0 ≤ r → r < n → Q (.int r) (upd H b (.lst [.int d', .int m']))
theorem ok_law_take (T : Txt K mg a) : FnOk P w K mg base CX0 1 a.f_law_take a.fd_law_take ["_law_bag_here", "_law_many"]  sp_law_take := by
  refine T.F_law_take.ok sc_law_take (fun vs H Q E h => ?_) (fun cdv A outer s H vs Q E hr h => ?_)
  · obtain ⟨b, d, m, n, rfl, _⟩ := h
    rfl
  · obtain ⟨b, d, m, n, rfl, hb, h0, h1, k⟩ := h
    refine ⟨_, ((pss_cons (ps_if (pt_cmpR op_gt (pe_ix ix_list (pv 0) pe_int (fun _ _ => rfl)) pe_int (nomark _))
 (pss_cons (ps_set (i := 2) sc_law_take.nd rfl (Or.inl rfl) (pe_op op_mod (pe_callTy call_intI (by rfl) T.n_int (by decide +kernel) (pa_cons (pe_ix ix_list (pv 0) pe_int (fun _ _ => rfl)) pa_nil)) (pv 1)))
 (pss_cons (ps_asg (pe_op op_fdivW (pe_ix ix_list (pv 0) pe_int (fun _ _ => rfl)) (pv 1)) (pg_sub (pv 0) pe_int set_list))
 (pss_one (ps_ret (pv 2)))))
 pss_nil)
 (pss_cons (ps_asg (pe_op op_mod (pe_callTy call_intI (by rfl) T.n_int (by decide +kernel) (pa_cons (pe_op op_add (pe_op op_mul (pe_ix ix_list (pv 0) pe_int (fun _ _ => rfl)) pe_int) pe_int) pa_nil)) pe_int) (pg_sub (pv 0) pe_int set_list))
 (pss_one (ps_ret (pe_op op_mod (pe_op op_fdivW (pe_op op_mod (pe_callTy call_intI (by rfl) T.n_int (by decide +kernel) (pa_cons (pe_op op_mul (pe_op op_fdivW (pe_ix ix_list (pv 0) pe_int (fun _ _ => rfl)) pe_int) pe_int) pa_nil)) pe_int) pe_int) (pv 1))))))), ?_⟩
    try simp only [cxK]
    lcg_src
    refine ifD (fun c => ?_) (fun c => ?_)
    · lcg_src
      exact k _ _ _ (Int.emod_nonneg _ (by omega)) (Int.emod_lt_of_pos _ h0)
    · lcg_src
      exact k _ _ _ (Int.emod_nonneg _ (by omega)) (Int.emod_lt_of_pos _ h0)
/-- a new bag -/
def sp_law_bag (K : PySem.W.Frag) : Sp := fun vs H Q _ => ∃ (sc : Addr) (ns : List Int) (at_ : Int), vs = [.ref sc, .int at_] ∧ SqL K H sc (ns.map V.int) ∧ 0 ≤ at_ ∧ at_ < 100 ∧ ns.length ≤ 63 ∧
  ∀ (p : Addr) (d m : Int) (H' : Hp), Same H H' → H p = none → H' p = some (.lst [.int d, .int m]) → Q (.ref p) H'
theorem atI_ints {ns : List Int} {i : Int} (h0 : 0 ≤ i) (h1 : i < (ns.length : Int)) : ∃ z, atI (ns.map V.int) i = some (.int z) := by
  have e : i.toNat < ns.length := by omega
  refine ⟨ns[i.toNat], ?_⟩
  unfold atI ixN
  rw [List.length_map, if_pos h0, if_pos h1]
  simp [e]
theorem cut_ints {ns : List Int} {lo hi : Option Int} {i : Nat} {x : V} (h : (cutV (ns.map V.int) lo hi)[i]? = some x) : ∃ y, x = .int y := by
  have hm := List.mem_of_getElem? h
  unfold cutV at hm
  have hm := List.mem_of_mem_drop (List.mem_of_mem_take hm)
  obtain ⟨y, _, e⟩ := List.mem_map.mp hm
  exact ⟨y, e.symm⟩
theorem ok_law_bag (T : Txt K mg a) : FnOk P w K mg base CX0 1 a.f_law_bag a.fd_law_bag ["_law_script", "_law_at"]  (sp_law_bag K) := by
  refine T.F_law_bag.ok sc_law_bag (fun vs H Q E h => ?_) (fun cdv A outer s H vs Q E hr h => ?_)
  · obtain ⟨_, _, _, rfl, _⟩ := h
    rfl
  · obtain ⟨sc, ns, at_, rfl, hS, h0, h1, hl, k⟩ := h
    refine ⟨_, ((Evl.pss_cut (ps_set (i := 2) sc_law_bag.nd rfl (Or.inl rfl) (pe_ifExp (pt_cmpR op_lt (pv 1) (pe_callB call_lenSeq (by rfl) T.n_len (by decide +kernel) (pa_cons (pv 0) pa_nil)) (nomark _)) (pe_ix ix_list (pv 0) (pv 1) (fun _ _ => rfl)) pe_int))
 (pss_cons (ps_set (i := 3) sc_law_bag.nd rfl (Or.inl rfl) (pe_op op_add (pe_op op_mul pe_int (pv 1)) pe_int))
 (pss_cons (ps_for PassesOwn.never rfl (pi_enum (by rfl) T.n_enumerate (pa_cons (pe_slice sl_list (pv 0) po_none (po_some pe_int)) pa_nil)) (pg_tup rfl (pgs_cons (pg_name (i := 4) sc_law_bag.nd rfl (Or.inl rfl)) (pgs_cons (pg_name (i := 5) sc_law_bag.nd rfl (Or.inl rfl)) pgs_nil)))
 (pss_one (ps_set (i := 3) sc_law_bag.nd rfl (Or.inl rfl) (pe_op op_mod (pe_callTy call_intI (by rfl) T.n_int (by decide +kernel) (pa_cons (pe_op op_add (pe_op op_add (pe_op op_mul (pv 3) pe_int) (pe_op op_mod (pe_callTy call_intI (by rfl) T.n_int (by decide +kernel) (pa_cons (pv 5) pa_nil)) pe_int)) (pe_op op_mul pe_int (pv 4))) pa_nil)) pe_int))))
 (pss_one (ps_ret (pe_lst (pa_cons (pe_ifExp (pt_cmpR op_ge (pe_callB call_absI (by rfl) T.n_abs (by decide +kernel) (pa_cons (pv 2) pa_nil)) (pe_op op_pow pe_int pe_int) (nomark _)) (pe_callB call_absI (by rfl) T.n_abs (by decide +kernel) (pa_cons (pv 2) pa_nil)) pe_int) (pa_cons (pv 3) pa_nil))))))))), ?_⟩
    try simp only [cxK]
    refine rd_cut (fun σ' H' => H' = H ∧ ∃ z : Int, σ' = [some (.ref sc), some (.int at_), some (.int z), none, none, none]) ?_ ?_
    · lcg_src
      refine ifD (fun c => ?_) (fun c => ?_)
      · rw [List.length_map] at c
        obtain ⟨z, hz⟩ := atI_ints h0 c
        lcg_src
        refine rd_ixL hS hz ?_
        lcg_src
        exact ⟨rfl, z, rfl⟩
      · lcg_src
        exact ⟨rfl, 0, rfl⟩
    · rintro σ' H' ⟨rfl, z, rfl⟩
      lcg_src
      intro l hl
      lcg_src
      refine fk_enum (xs := cutV (ns.map V.int) none (some 63)) (fun i σ H2 => Same (upd H' l (.lst (cutV (ns.map V.int) none (some 63)))) H2 ∧ ∃ (m : Int) (u v : Option V), σ = [some (.ref sc), some (.int at_), some (.int z), some (.int m), u, v])
        ⟨Same.refl _, _, _, _, rfl⟩ (fun i σ H2 _ ⟨s2, _⟩ => sqL_of (s2 _ _ upd_same)) ?_ ?_
      · rintro i x T0 σ H2 hx hT ⟨s2, m, u, v, rfl⟩
        obtain ⟨y, rfl⟩ := cut_ints hx
        lcg_src
        exact ⟨s2.trans (same_new hT), _, _, _, rfl⟩
      · rintro σ H2 ⟨s2, m, u, v, rfl⟩
        lcg_src
        refine rd_pow ⟨by decide, by decide, by decide⟩ ?_
        lcg_src
        refine ifD (fun c => ?_) (fun c => ?_)
        all_goals
          lcg_src
          intro p hp
          have s3 : Same H' H2 := (same_new hl).trans s2
          exact k _ _ _ _ (s3.trans (same_new hp)) (s3.free hp) upd_same
end
end K31

namespace K31
open PySem L2 Hk
local macro_rules | `(tactic| array_mem_dec) => `(tactic| first
  | assumption | exact upd_same
  | (apply upd_new; assumption; array_mem_dec)
  | (apply upd_old; tlg_ne; array_mem_dec)
  | (apply same_at; assumption; array_mem_dec))
local macro_rules | `(tactic| tlg_ne) => `(tactic| first
  | assumption | (apply Ne.symm; assumption)
  | (apply ne_new; assumption; array_mem_dec) | (apply ne_new'; assumption; array_mem_dec)
  | (apply ne_of; assumption; assumption; (intro z; cases z; done)))
local macro_rules | `(tactic| decreasing_trivial_pre_omega) => `(tactic| first
  | assumption | (apply sqL_of; array_mem_dec) | (apply sqT_of; array_mem_dec)
  | (apply Same.seq; assumption; decreasing_trivial_pre_omega) | (apply sqT_same; assumption; decreasing_trivial_pre_omega)
  | (apply sqL_new; assumption; decreasing_trivial_pre_omega) | (apply sqL_upd; tlg_ne; decreasing_trivial_pre_omega))
local macro_rules | `(tactic| kpt_turns) => `(tactic| first
  | assumption | exact Same.refl _ | (apply same_ext; kpt_turns; assumption) | (apply same_mut; kpt_turns; keq_hits) | (apply same_step; assumption; kpt_turns))
local macro_rules | `(tactic| keq_hits) => `(tactic| first | assumption | (apply same_none; assumption; keq_hits))
local macro_rules | `(tactic| sizeOf_list_dec) => `(tactic| first | (with_reducible assumption) | (with_reducible_and_instances omega) | (with_unfolding_all decide))
local macro_rules | `(tactic| array_get_dec) => `(tactic| first | (with_reducible assumption) | (apply sz_of; (with_unfolding_all simp); done) | (apply sz_of; omega) | (apply sz_lt; (with_unfolding_all simp); done) | (apply sz_lt; omega))
local macro_rules | `(tactic| keq_rows) => `(tactic| with_reducible first
  | refine rd_asgN ?_ | refine rd_seq ?_ | refine rd_asg ?_ | refine rd_gname ?_ | refine rd_op ?_ | refine rd_var (by with_unfolding_all rfl) ?_ | refine rd_c ?_ | refine rd_I0 ?_
  | refine rd_cons ?_ | refine rd_nil ?_ | refine rd_cb ?_ | refine rd_test ?_ | refine rd_bl ?_ | refine rd_fld ?_ | refine rd_drop ?_ | refine rd_ret ?_ | refine rd_retN ?_ | refine rd_next ?_
  | refine rd_ifS ?_ | refine rd_un ?_ | refine rd_B ?_ | refine rd_and ?_ | refine rd_or ?_ | refine rd_not ?_ | refine rd_andV ?_ | refine rd_orV ?_ | refine rd_notV ?_ | refine rd_if ?_
  | refine rd_int ?_ | refine rd_abs ?_ | refine rd_max ?_ | refine rd_min ?_ | refine rd_strS ?_ | refine rd_U ?_
  | refine rd_eqTx ?_ | refine rd_neTx ?_ | refine rd_inTx ?_ | refine rd_notInTx ?_ | refine rd_fmt ?_ | refine rd_fmtT (by omega) ?_ | refine rd_jsC ?_ | refine rd_jsN ?_ | refine rd_JsK (by (try simp); omega) ?_ | refine rd_addT (by (try simp); omega) ?_ | refine rd_lenTx (by omega) ?_
  | refine rd_eq (by with_unfolding_all rfl) ?_ | refine rd_ne (by with_unfolding_all rfl) ?_ | refine rd_isNone ?_ | refine rd_notNone ?_
  | refine rd_ixL (by decreasing_trivial_pre_omega) (by with_unfolding_all rfl) ?_ | refine rd_ixT (by decreasing_trivial_pre_omega) (by with_unfolding_all rfl) ?_
  | refine rd_lenL (by decreasing_trivial_pre_omega) ?_ | refine rd_lenT (by decreasing_trivial_pre_omega) ?_
  | refine rd_mod (by sizeOf_list_dec) ?_ | refine rd_div (by sizeOf_list_dec) (by sizeOf_list_dec) ?_ | refine rd_mulR (by sizeOf_list_dec) (by sizeOf_list_dec) ?_ | refine rd_mulL (by sizeOf_list_dec) (by sizeOf_list_dec) ?_ | refine rd_pow (by sizeOf_list_dec) ?_
  | refine rd_setL (by array_mem_dec) (by with_unfolding_all rfl) ?_
  | refine rd_slL (by decreasing_trivial_pre_omega) ?_ | refine rd_inSign ?_ | refine rd_notInSign ?_ | refine rd_tup ?_ | refine rd_lst ?_ | refine rd_sl ?_ | refine rd_noPart ?_ | refine rd_part ?_ | refine rd_isInt ?_
  | refine rd_gsub ?_ | refine rd_gcons ?_ | refine rd_gnil ?_ | refine rd_call ?_ | refine rd_meth ?_ | refine rd_make ?_ | refine rd_smeth ?_ | refine rd_isC ?_ | refine rd_smethK ?_ | refine rd_cmeth ?_ | refine rd_cmethK ?_
  | refine rd_bm ?_ | refine rd_bm0 ?_ | refine rd_bmL (by array_mem_dec) ?_ | refine rd_bm0L (by array_mem_dec) ?_ | refine rd_sfld ?_ | refine rd_aug ?_ | refine rd_rAdd ?_ | refine rd_brk ?_ | refine rd_cont ?_
  | refine rd_for ?_ | refine rd_iList ?_ | refine rd_IList (by decreasing_trivial_pre_omega) ?_ | refine rd_iTup ?_ | refine rd_ITup (by decreasing_trivial_pre_omega) ?_ | refine rd_iEnum ?_ | refine rd_IEnum (by decreasing_trivial_pre_omega) ?_ | refine rd_iRng1 ?_ | refine rd_IRng1 (by sizeOf_list_dec) (by sizeOf_list_dec) ?_
  | refine rd_new (by array_get_dec) ?_ | refine rd_lenS (by array_get_dec) ?_ | refine rd_addS (by array_get_dec) ?_ | refine rd_slS (by array_get_dec) ?_ | refine rd_lc ?_ | refine rd_yes ?_ | refine rd_gtup (by decreasing_trivial_pre_omega) (by with_unfolding_all rfl) ?_ | refine rd_makeL (by with_unfolding_all rfl) ?_)
local macro_rules | `(tactic| kas_types) => `(tactic| with_reducible first | refine rd_isi_int_int ?_ | refine rd_isi_int_bool ?_ | refine rd_isi_int_str ?_ | refine rd_isi_int_list ?_ | refine rd_isi_int_tuple ?_ | refine rd_isi_bool_int ?_ | refine rd_isi_bool_bool ?_ | refine rd_isi_bool_str ?_ | refine rd_isi_bool_list ?_ | refine rd_isi_bool_tuple ?_ | refine rd_isi_str_int ?_ | refine rd_isi_str_bool ?_ | refine rd_isi_str_str ?_ | refine rd_isi_str_list ?_ | refine rd_isi_str_tuple ?_ | refine rd_isi_list_int (by array_mem_dec) ?_ | refine rd_isi_list_bool (by array_mem_dec) ?_ | refine rd_isi_list_str (by array_mem_dec) ?_ | refine rd_isi_list_list (by array_mem_dec) ?_ | refine rd_isi_list_tuple (by array_mem_dec) ?_ | refine rd_isi_tuple_int (by array_mem_dec) ?_ | refine rd_isi_tuple_bool (by array_mem_dec) ?_ | refine rd_isi_tuple_str (by array_mem_dec) ?_ | refine rd_isi_tuple_list (by array_mem_dec) ?_ | refine rd_isi_tuple_tuple (by array_mem_dec) ?_ | refine rd_isi_NoneType_int ?_ | refine rd_isi_NoneType_bool ?_ | refine rd_isi_NoneType_str ?_ | refine rd_isi_NoneType_list ?_ | refine rd_isi_NoneType_tuple ?_)
local macro_rules | `(tactic| lcg_src) => `(tactic| repeat keq_rows)

section
variable {P : Program} {w : World} {K : PySem.W.Frag} {mg : Str → Option Value} {base : Heap} {a : Ad}
/-- one of a text's letters -/
def sp_law_of : Sp := fun vs H Q _ => ∃ (b : Addr) (d m : Int) (l : List Nat), vs = [.ref b, .str (tx l)] ∧ H b = some (.lst [.int d, .int m]) ∧ 0 < l.length ∧ l.length < 1000 ∧
  ∀ (c : Nat) (d' m' : Int), c ∈ l → Q (.str (tx [c])) (upd H b (.lst [.int d', .int m']))
theorem ok_law_of (T : Txt K mg a) : FnOk P w K mg base CX0 2 a.f_law_of a.fd_law_of ["_law_bag_here", "_law_some"]  sp_law_of := by
  refine T.F_law_of.ok sc_law_of (fun vs H Q E h => ?_) (fun cdv A outer s H vs Q E hr h => ?_)
  · obtain ⟨_, _, _, _, rfl, _⟩ := h
    rfl
  · obtain ⟨b, d, m, l, rfl, hb, h0, h1, k⟩ := h
    refine ⟨_, ((pss_one (ps_ret (pe_ix ix_str (pv 1) (pe_call (ok_law_take T) hr rfl T.g_law_take T.F_law_take.kp T.b_law_take .nil pass0 (pa_cons (pv 0) (pa_cons (pe_callB call_lenStr (by rfl) T.n_len (by decide +kernel) (pa_cons (pv 1) pa_nil)) pa_nil))) (fun _ _ => rfl))))), ?_⟩
    try simp only [cxK]
    lcg_src
    refine ⟨b, d, m, _, rfl, hb, by omega, by omega, fun r d' m' r0 r1 => ?_⟩
    obtain ⟨c, hc, hm⟩ := atI_mem r0 r1
    refine rd_ixS (by rw [tx_len]; exact sz_of (by omega)) hc ?_
    exact k c d' m' hm
/-- a first text and up to n small letters -/
def sp_law_letters : Sp := fun vs H Q _ => ∃ (b : Addr) (d m n : Int) (l : List Nat), vs = [.ref b, .str (tx l), .int n] ∧ H b = some (.lst [.int d, .int m]) ∧ 0 ≤ n ∧ n ≤ 1000 ∧ l.length ≤ 1000 ∧
  ∀ (l2 : List Nat) (d' m' : Int), (∀ c ∈ l2, c ∈ smalls) → (l2.length : Int) ≤ n → Q (.str (tx (l ++ l2))) (upd H b (.lst [.int d', .int m']))
theorem ok_law_letters (T : Txt K mg a) : FnOk P w K mg base CX0 3 a.f_law_letters a.fd_law_letters ["_law_bag_here", "_law_first", "_law_many"]  sp_law_letters := by
  refine T.F_law_letters.ok sc_law_letters (fun vs H Q E h => ?_) (fun cdv A outer s H vs Q E hr h => ?_)
  · obtain ⟨_, _, _, _, _, rfl, _⟩ := h
    rfl
  · obtain ⟨b, d, m, n, l, rfl, hb, h0, h1, hl, k⟩ := h
    refine ⟨_, ((pss_cons (ps_set (i := 3) sc_law_letters.nd rfl (Or.inl rfl) (pv 1))
 (pss_cons (ps_for PassesOwn.never rfl (pi_range1 rfl T.n_range (pa_cons (pe_call (ok_law_take T) (hr.mono (by decide)) rfl T.g_law_take T.F_law_take.kp T.b_law_take .nil pass0 (pa_cons (pv 0) (pa_cons (pe_op op_add (pv 2) pe_int) pa_nil))) pa_nil)) (pg_name (i := 4) sc_law_letters.nd rfl (Or.inl rfl))
 (pss_one (ps_set (i := 3) sc_law_letters.nd rfl (Or.inl rfl) (pe_op op_addStr (pv 3) (pe_call (ok_law_of T) hr rfl T.g_law_of T.F_law_of.kp T.b_law_of .nil pass0 (pa_cons (pv 0) (pa_cons pe_str pa_nil)))))))
 (pss_one (ps_ret (pv 3)))))), ?_⟩
    try simp only [cxK]
    lcg_src
    refine ⟨b, d, m, _, rfl, hb, by omega, by omega, fun r d' m' r0 r1 => ?_⟩
    lcg_src
    refine fk_range (fun i σ H2 => ∃ (l2 : List Nat) (d' m' : Int) (u : Option V), (∀ c ∈ l2, c ∈ smalls) ∧ l2.length = i ∧ H2 = upd H b (.lst [.int d', .int m']) ∧ σ = [some (.ref b), some (.str (tx l)), some (.int n), some (.str (tx (l ++ l2))), u])
      ⟨[], d', m', none, by simp, rfl, rfl, by simp [L2.start]⟩ ?_ ?_
    · rintro i σ H2 hi ⟨l2, d2, m2, u, hs, hn, rfl, rfl⟩
      lcg_src
      refine ⟨b, d2, m2, smalls, by rw [smalls_eq]; rfl, upd_same, by decide, by decide, fun c d3 m3 hc => ?_⟩
      lcg_src
      refine ⟨l2 ++ [c], d3, m3, some (.int i), ?_, by simp [hn], upd_upd, ?_⟩
      · intro c' hc'
        rcases List.mem_append.mp hc' with h | h
        · exact hs c' h
        · rw [List.mem_singleton.mp h]; exact hc
      · rw [List.append_assoc] <;> rfl
    · rintro σ H2 ⟨l2, d2, m2, u, hs, hn, rfl, rfl⟩
      lcg_src
      exact k l2 d2 m2 hs (by omega)
/-- whether something is this integer -/
def sp_law_number : Sp := fun vs H Q _ => ∃ (i j : Int), vs = [.int i, .int j] ∧ Q (.bl (decide (i = j))) H
theorem ok_law_number (T : Txt K mg a) : FnOk P w K mg base CX0 1 a.f_law_number a.fd_law_number ["_law_x", "_law_due"]  sp_law_number := by
  refine T.F_law_number.ok sc_law_number (fun vs H Q E h => ?_) (fun cdv A outer s H vs Q E hr h => ?_)
  · obtain ⟨_, _, rfl, _⟩ := h
    rfl
  · obtain ⟨i, j, rfl, k⟩ := h
    refine ⟨_, ((pss_one (ps_ret (pe_and (pe_callB call_isi (by rfl) T.n_isinstance (by decide +kernel) (pa_cons (pv 0) (pa_cons (pe_bltn (v := .ty "int") (by rfl) T.n_int (by decide +kernel) rfl) pa_nil))) (pe_and (pe_not (pe_callB call_isi (by rfl) T.n_isinstance (by decide +kernel) (pa_cons (pv 0) (pa_cons (pe_bltn (v := .ty "bool") (by rfl) T.n_bool (by decide +kernel) rfl) pa_nil)))) (pe_one (pe_cmpR op_eq (pv 0) (pv 1) (nomark _)))))))), ?_⟩
    try simp only [cxK]
    lcg_src
    kas_types
    lcg_src
    refine iteT ?_
    lcg_src
    kas_types
    lcg_src
    refine iteT ?_
    lcg_src
    have e : decide (V.int i = V.int j) = decide (i = j) := by simp
    rw [e]
    exact k
end
end K31

namespace K31
open PySem L2 Hk
local macro_rules | `(tactic| array_mem_dec) => `(tactic| first
  | assumption | exact upd_same
  | (apply upd_new; assumption; array_mem_dec)
  | (apply upd_old; tlg_ne; array_mem_dec)
  | (apply same_at; assumption; array_mem_dec))
local macro_rules | `(tactic| tlg_ne) => `(tactic| first
  | assumption | (apply Ne.symm; assumption)
  | (apply ne_new; assumption; array_mem_dec) | (apply ne_new'; assumption; array_mem_dec)
  | (apply ne_of; assumption; assumption; (intro z; cases z; done)))
local macro_rules | `(tactic| decreasing_trivial_pre_omega) => `(tactic| first
  | assumption | (apply sqL_of; array_mem_dec) | (apply sqT_of; array_mem_dec)
  | (apply Same.seq; assumption; decreasing_trivial_pre_omega) | (apply sqT_same; assumption; decreasing_trivial_pre_omega)
  | (apply sqL_new; assumption; decreasing_trivial_pre_omega) | (apply sqL_upd; tlg_ne; decreasing_trivial_pre_omega))
local macro_rules | `(tactic| kpt_turns) => `(tactic| first
  | assumption | exact Same.refl _ | (apply same_ext; kpt_turns; assumption) | (apply same_mut; kpt_turns; keq_hits) | (apply same_step; assumption; kpt_turns))
local macro_rules | `(tactic| keq_hits) => `(tactic| first | assumption | (apply same_none; assumption; keq_hits))
local macro_rules | `(tactic| sizeOf_list_dec) => `(tactic| first | (with_reducible assumption) | (with_reducible_and_instances omega) | (with_unfolding_all decide))
local macro_rules | `(tactic| array_get_dec) => `(tactic| first | (with_reducible assumption) | (apply sz_of; (with_unfolding_all simp); done) | (apply sz_of; omega) | (apply sz_lt; (with_unfolding_all simp); done) | (apply sz_lt; omega))
local macro_rules | `(tactic| keq_rows) => `(tactic| with_reducible first
  | refine rd_asgN ?_ | refine rd_seq ?_ | refine rd_asg ?_ | refine rd_gname ?_ | refine rd_op ?_ | refine rd_var (by with_unfolding_all rfl) ?_ | refine rd_c ?_ | refine rd_I0 ?_
  | refine rd_cons ?_ | refine rd_nil ?_ | refine rd_cb ?_ | refine rd_test ?_ | refine rd_bl ?_ | refine rd_fld ?_ | refine rd_drop ?_ | refine rd_ret ?_ | refine rd_retN ?_ | refine rd_next ?_
  | refine rd_ifS ?_ | refine rd_un ?_ | refine rd_B ?_ | refine rd_and ?_ | refine rd_or ?_ | refine rd_not ?_ | refine rd_andV ?_ | refine rd_orV ?_ | refine rd_notV ?_ | refine rd_if ?_
  | refine rd_int ?_ | refine rd_abs ?_ | refine rd_max ?_ | refine rd_min ?_ | refine rd_strS ?_ | refine rd_U ?_
  | refine rd_eqTx ?_ | refine rd_neTx ?_ | refine rd_inTx ?_ | refine rd_notInTx ?_ | refine rd_fmt ?_ | refine rd_fmtT (by omega) ?_ | refine rd_jsC ?_ | refine rd_jsN ?_ | refine rd_JsK (by (try simp); omega) ?_ | refine rd_addT (by (try simp); omega) ?_ | refine rd_lenTx (by omega) ?_
  | refine rd_eq (by with_unfolding_all rfl) ?_ | refine rd_ne (by with_unfolding_all rfl) ?_ | refine rd_isNone ?_ | refine rd_notNone ?_
  | refine rd_ixL (by decreasing_trivial_pre_omega) (by with_unfolding_all rfl) ?_ | refine rd_ixT (by decreasing_trivial_pre_omega) (by with_unfolding_all rfl) ?_
  | refine rd_lenL (by decreasing_trivial_pre_omega) ?_ | refine rd_lenT (by decreasing_trivial_pre_omega) ?_
  | refine rd_mod (by sizeOf_list_dec) ?_ | refine rd_div (by sizeOf_list_dec) (by sizeOf_list_dec) ?_ | refine rd_mulR (by sizeOf_list_dec) (by sizeOf_list_dec) ?_ | refine rd_mulL (by sizeOf_list_dec) (by sizeOf_list_dec) ?_ | refine rd_pow (by sizeOf_list_dec) ?_
  | refine rd_setL (by array_mem_dec) (by with_unfolding_all rfl) ?_
  | refine rd_slL (by decreasing_trivial_pre_omega) ?_ | refine rd_inSign ?_ | refine rd_notInSign ?_ | refine rd_tup ?_ | refine rd_lst ?_ | refine rd_sl ?_ | refine rd_noPart ?_ | refine rd_part ?_ | refine rd_isInt ?_
  | refine rd_gsub ?_ | refine rd_gcons ?_ | refine rd_gnil ?_ | refine rd_call ?_ | refine rd_meth ?_ | refine rd_make ?_ | refine rd_smeth ?_ | refine rd_isC ?_ | refine rd_smethK ?_ | refine rd_cmeth ?_ | refine rd_cmethK ?_
  | refine rd_bm ?_ | refine rd_bm0 ?_ | refine rd_bmL (by array_mem_dec) ?_ | refine rd_bm0L (by array_mem_dec) ?_ | refine rd_sfld ?_ | refine rd_aug ?_ | refine rd_rAdd ?_ | refine rd_brk ?_ | refine rd_cont ?_
  | refine rd_for ?_ | refine rd_iList ?_ | refine rd_IList (by decreasing_trivial_pre_omega) ?_ | refine rd_iTup ?_ | refine rd_ITup (by decreasing_trivial_pre_omega) ?_ | refine rd_iEnum ?_ | refine rd_IEnum (by decreasing_trivial_pre_omega) ?_ | refine rd_iRng1 ?_ | refine rd_IRng1 (by sizeOf_list_dec) (by sizeOf_list_dec) ?_
  | refine rd_new (by array_get_dec) ?_ | refine rd_lenS (by array_get_dec) ?_ | refine rd_addS (by array_get_dec) ?_ | refine rd_slS (by array_get_dec) ?_ | refine rd_lc ?_ | refine rd_yes ?_ | refine rd_gtup (by decreasing_trivial_pre_omega) (by with_unfolding_all rfl) ?_ | refine rd_makeL (by with_unfolding_all rfl) ?_)
local macro_rules | `(tactic| kas_types) => `(tactic| with_reducible first | refine rd_isi_int_int ?_ | refine rd_isi_int_bool ?_ | refine rd_isi_int_str ?_ | refine rd_isi_int_list ?_ | refine rd_isi_int_tuple ?_ | refine rd_isi_bool_int ?_ | refine rd_isi_bool_bool ?_ | refine rd_isi_bool_str ?_ | refine rd_isi_bool_list ?_ | refine rd_isi_bool_tuple ?_ | refine rd_isi_str_int ?_ | refine rd_isi_str_bool ?_ | refine rd_isi_str_str ?_ | refine rd_isi_str_list ?_ | refine rd_isi_str_tuple ?_ | refine rd_isi_list_int (by array_mem_dec) ?_ | refine rd_isi_list_bool (by array_mem_dec) ?_ | refine rd_isi_list_str (by array_mem_dec) ?_ | refine rd_isi_list_list (by array_mem_dec) ?_ | refine rd_isi_list_tuple (by array_mem_dec) ?_ | refine rd_isi_tuple_int (by array_mem_dec) ?_ | refine rd_isi_tuple_bool (by array_mem_dec) ?_ | refine rd_isi_tuple_str (by array_mem_dec) ?_ | refine rd_isi_tuple_list (by array_mem_dec) ?_ | refine rd_isi_tuple_tuple (by array_mem_dec) ?_ | refine rd_isi_NoneType_int ?_ | refine rd_isi_NoneType_bool ?_ | refine rd_isi_NoneType_str ?_ | refine rd_isi_NoneType_list ?_ | refine rd_isi_NoneType_tuple ?_)
local macro_rules | `(tactic| lcg_src) => `(tactic| repeat keq_rows)

theorem colon_tx : Str.ofString ":" = tx [58] := by decide +kernel
theorem dot_tx : Str.ofString "." = tx [46] := by decide +kernel
/-! ### the data of an expression -/
inductive Row where
  | leaf (l n : List Nat) | asked (wd n : List Nat) | done (s : List Nat) (k : Nat)
def Row.vals : Row → List V
  | .leaf l n => [.str "leaf", .str (tx l), .str (tx n)]
  | .asked wd n => [.str "asked", .str (tx wd), .str (tx n)]
  | .done s k => [.str "done", .str (tx s), .int k]
def Row.step : Row → Bool
  | .leaf _ _ => false
  | _ => true
def Row.sign : Row → List Nat
  | .leaf l _ => l
  | .asked wd _ => wd
  | .done s _ => s
def RowsAt (H : Hp) (xs : List V) (rows : List Row) : Prop := xs.length = rows.length ∧ ∀ (i : Nat) x r, xs[i]? = some x → rows[i]? = some r → ∃ q, x = .ref q ∧ H q = some (.tup r.vals)
theorem RowsAt.mono {H H' : Hp} {xs : List V} {rows : List Row} (e : Same H H') (h : RowsAt H xs rows) : RowsAt H' xs rows := ⟨h.1, fun i x r h1 h2 => let ⟨q, hq, ht⟩ := h.2 i x r h1 h2; ⟨q, hq, e _ _ ht⟩⟩
theorem RowsAt.one {H : Hp} {q : Addr} {r : Row} (h : H q = some (.tup r.vals)) : RowsAt H [.ref q] [r] := ⟨rfl, fun i x r' h1 h2 => by
  cases i with
  | zero => simp at h1 h2; subst h1 h2; exact ⟨q, rfl, h⟩
  | succ i => simp at h1⟩
def fE (t : List Nat) (q : Addr) : List (Str × V) := [("text", .str (tx t)), ("program", .ref q)]
theorem fE_text {t : List Nat} {q : Addr} : (fE t q).lookup ("text" : Str) = some (.str (tx t)) := by unfold fE; rw [List.lookup_cons_self]
theorem fE_program {t : List Nat} {q : Addr} : (fE t q).lookup ("program" : Str) = some (.ref q) := by
  unfold fE
  rw [List.lookup_cons, List.lookup_cons_self]
  have e : (("program" : Str) == "text") = false := by decide +kernel
  rw [e]
theorem fE_no {t : List Nat} {q : Addr} {m : Str} (h1 : (m == ("text" : Str)) = false) (h2 : (m == ("program" : Str)) = false) : (fE t q).lookup m = none := by
  unfold fE
  rw [List.lookup_cons, h1, List.lookup_cons, h2]
  rfl
theorem fE_put1 {v : V} : putF "text" v [] = [(("text" : Str), v)] := rfl
theorem fE_put2 {t : List Nat} {q : Addr} : putF "program" (.ref q) [(("text" : Str), V.str (tx t))] = fE t q := by
  show (if ("text" : Str) = "program" then _ else (("text" : Str), V.str (tx t)) :: putF "program" (.ref q) []) = _
  rw [if_neg (by decide +kernel)]
  rfl
structure ExprAt (a : Ad) (H : Hp) (p : Addr) (t : List Nat) (rows : List Row) : Prop where
  ex : ∃ dx q xs, H p = some (.ins a.C_Expression dx (fE t q)) ∧ H q = some (.lst xs) ∧ RowsAt H xs rows
theorem ExprAt.mono {a : Ad} {H H' : Hp} {p : Addr} {t : List Nat} {rows : List Row} (e : Same H H') (h : ExprAt a H p t rows) : ExprAt a H' p t rows :=
  let ⟨dx, q, xs, h1, h2, h3⟩ := h.ex
  ⟨dx, q, xs, e _ _ h1, e _ _ h2, h3.mono e⟩
section
variable {P : Program} {w : World} {K : PySem.W.Frag} {mg : Str → Option Value} {base : Heap} {a : Ad} {H : Hp} {Q : VK} {p dx q : Addr} {t : List Nat}
theorem fldE_text (T : Txt K mg a) (e : H p = some (.ins a.C_Expression dx (fE t q))) (k : Q (.str (tx t)) H) : FldK K "text" (.ref p) H Q := rd_fldK e T.cl_Expression T.no_Expression_text fE_text k
theorem fldE_program (T : Txt K mg a) (e : H p = some (.ins a.C_Expression dx (fE t q))) (k : Q (.ref q) H) : FldK K "program" (.ref p) H Q := rd_fldK e T.cl_Expression T.no_Expression_program fE_program k
end
local macro_rules | `(tactic| lcg_sub) => `(tactic| with_reducible first | refine fldE_text (by assumption) (by array_mem_dec) ?_ | refine fldE_program (by assumption) (by array_mem_dec) ?_)
local macro_rules | `(tactic| lcg_off) => `(tactic| repeat (first | keq_rows | lcg_sub))
section
variable {P : Program} {w : World} {K : PySem.W.Frag} {mg : Str → Option Value} {base : Heap} {a : Ad}
def sp_Expression_init (a : Ad) (K : PySem.W.Frag) : Sp := fun vs H Q _ => ∃ (p dx q0 : Addr) (t : List Nat) (xs : List V), vs = [.ref p, .str (tx t), .ref q0] ∧ H p = some (.ins a.C_Expression dx []) ∧ H q0 = some (.lst xs) ∧
  ∀ (l : Addr) (H' : Hp), H l = none → (∀ b o, b ≠ p → H b = some o → H' b = some o) → H' p = some (.ins a.C_Expression dx (fE t l)) → H' l = some (.lst xs) → Q .non H'
theorem ok_Expression_init (T : Txt K mg a) : FnOk P w K mg base CX0 1 a.f_Expression_init a.fd_Expression_init ["self", "text", "program"]  (sp_Expression_init a K) := by
  refine T.F_Expression_init.ok sc_Expression_init (fun vs H Q E h => ?_) (fun cdv A outer s H vs Q E hr h => ?_)
  · obtain ⟨_, _, _, _, _, rfl, _⟩ := h
    rfl
  · obtain ⟨p, dx, q0, t, xs, rfl, hp, hq, k⟩ := h
    refine ⟨_, ((pss_cons (ps_fld (pv 0) (pv 1) rfl)
 (pss_one (ps_fld (pv 0) (pe_callTy call_listOf (by rfl) T.n_list (by decide +kernel) (pa_cons (pv 2) pa_nil)) rfl)))), ?_⟩
    try simp only [cxK]
    have npq : q0 ≠ p := ne_of hq hp (by intro z; cases z)
    lcg_off
    refine rd_sfldK hp T.cl_Expression T.no_Expression_text (by show 0 < 1000; decide) ?_
    rw [fE_put1]
    lcg_off
    refine rd_listL (by decreasing_trivial_pre_omega) fun l hl => ?_
    have npl : p ≠ l := ne_of_none upd_same hl
    lcg_off
    refine rd_sfldK (by array_mem_dec) T.cl_Expression T.no_Expression_program (by show 1 < 1000; decide) ?_
    rw [fE_put2]
    refine k l _ ?_ (fun b o hb e => ?_) upd_same ?_
    · rw [upd_ne npl.symm] at hl
      exact hl
    · have nbl : b ≠ l := by
        rw [upd_ne npl.symm] at hl
        exact ne_of_none e hl
      rw [upd_ne hb, upd_ne nbl, upd_ne hb]
      exact e
    · rw [upd_ne npl.symm]
      exact upd_same
/-- an expression is made of a text and a new list -/
theorem make_expr {a : Ad} {K : PySem.W.Frag} {E : XK} {H H0 : Hp} {Q : VK} {t : List Nat} {q0 : Addr} {xs : List V} {rows : List Row} (s0 : Same H0 H) (hq : H q0 = some (.lst xs)) (hr : RowsAt H xs rows)
    (k : ∀ p H', Same H H' → H p = none → ExprAt a H' p t rows → Q (.ref p) H') :
    ∀ x dx, H x = none → H dx = none → dx ≠ x → sp_Expression_init a K [.ref x, .str (tx t), .ref q0] (upd (upd H dx (.own x)) x (.ins a.C_Expression dx [])) (fun v H2 => v = .non ∧ Q (.ref x) H2) E := by
  intro x dx nx ndx ne
  have h1 : (upd H dx (.own x)) x = none := upd_oldN ne.symm nx
  refine ⟨x, dx, q0, t, xs, rfl, upd_same, upd_new h1 (upd_new ndx hq), fun l H' hl keep hx hl' => ⟨rfl, ?_⟩⟩
  have s1 : Same H H' := fun b o e => keep b o (ne_of_none e nx) (upd_new h1 (upd_new ndx e))
  exact k x H' s1 nx ⟨dx, l, xs, hx, hl', hr.mono s1⟩
def sp_Expression_leaf (a : Ad) : Sp := fun vs H Q _ => ∃ (l n : List Nat), vs = [.str (tx l), .str (tx n)] ∧ l.length ≤ 100 ∧ n.length ≤ 100 ∧
  ∀ p H', Same H H' → H p = none → ExprAt a H' p (l ++ 58 :: n) [.leaf l n] → Q (.ref p) H'
theorem ok_Expression_leaf (T : Txt K mg a) : FnOk P w K mg base CX0 3 a.f_Expression_leaf a.fd_Expression_leaf ["label", "name"]  (sp_Expression_leaf a) := by
  refine T.F_Expression_leaf.ok sc_Expression_leaf (fun vs H Q E h => ?_) (fun cdv A outer s H vs Q E hr h => ?_)
  · obtain ⟨_, _, rfl, _⟩ := h
    rfl
  · obtain ⟨l, n, rfl, hl, hn, k⟩ := h
    refine ⟨_, ((pss_one (ps_ret (pe_make T.mk_Expression (ok_Expression_init T) hr rfl T.g_Expression T.b_Expression_init .nil pass0 (pa_cons (pe_joined (.cons (pe_fmt (pv 0)) (.cons pe_str (.cons (pe_fmt (pv 1)) .nil)))) (pa_cons (pe_lst (pa_cons (pe_tup (pa_cons (pe_glob (v := .str "leaf") rfl T.g_LEAF ⟨_, rfl⟩) (pa_cons (pv 0) (pa_cons (pv 1) pa_nil)))) pa_nil)) pa_nil)))))), ?_⟩
    try simp only [cxK, colon_tx, empty_tx]
    lcg_off
    intro r hr0
    lcg_off
    intro q hq0
    lcg_off
    have e : ([] ++ l ++ [58] ++ n : List Nat) = l ++ 58 :: n := by simp
    rw [e]
    refine make_expr (s0 := Same.refl _) upd_same (RowsAt.one (r := .leaf l n) (upd_new hq0 upd_same)) fun p H' s1 hp he => ?_
    exact k p H' (((same_new hr0).trans (same_new hq0)).trans s1) (((same_new hr0).trans (same_new hq0)).free hp) he
def sp_Expression_asked (a : Ad) : Sp := fun vs H Q _ => ∃ (n wd : List Nat), vs = [.str (tx n), .str (tx wd)] ∧ n.length ≤ 100 ∧ wd.length ≤ 100 ∧
  ∀ p H', Same H H' → H p = none → ExprAt a H' p (n ++ 46 :: wd) [.asked wd n] → Q (.ref p) H'
theorem ok_Expression_asked (T : Txt K mg a) : FnOk P w K mg base CX0 3 a.f_Expression_asked a.fd_Expression_asked ["name", "word"]  (sp_Expression_asked a) := by
  refine T.F_Expression_asked.ok sc_Expression_asked (fun vs H Q E h => ?_) (fun cdv A outer s H vs Q E hr h => ?_)
  · obtain ⟨_, _, rfl, _⟩ := h
    rfl
  · obtain ⟨n, wd, rfl, hn, hl, k⟩ := h
    refine ⟨_, ((pss_one (ps_ret (pe_make T.mk_Expression (ok_Expression_init T) hr rfl T.g_Expression T.b_Expression_init .nil pass0 (pa_cons (pe_joined (.cons (pe_fmt (pv 0)) (.cons pe_str (.cons (pe_fmt (pv 1)) .nil)))) (pa_cons (pe_lst (pa_cons (pe_tup (pa_cons (pe_glob (v := .str "asked") rfl T.g_ASKED ⟨_, rfl⟩) (pa_cons (pv 1) (pa_cons (pv 0) pa_nil)))) pa_nil)) pa_nil)))))), ?_⟩
    try simp only [cxK, dot_tx, empty_tx]
    lcg_off
    intro r hr0
    lcg_off
    intro q hq0
    lcg_off
    have e : ([] ++ n ++ [46] ++ wd : List Nat) = n ++ 46 :: wd := by simp
    rw [e]
    refine make_expr (s0 := Same.refl _) upd_same (RowsAt.one (r := .asked wd n) (upd_new hq0 upd_same)) fun p H' s1 hp he => ?_
    exact k p H' (((same_new hr0).trans (same_new hq0)).trans s1) (((same_new hr0).trans (same_new hq0)).free hp) he
def signsOf (rows : List Row) : List V := (rows.filter Row.step).map fun r => .str (tx r.sign)
def nSteps (rows : List Row) : Nat := (rows.filter Row.step).length
def sp_Expression_signs (a : Ad) : Sp := fun vs H Q _ => ∃ (p : Addr) (t : List Nat) (rows : List Row), vs = [.ref p] ∧ ExprAt a H p t rows ∧ rows.length ≤ 1000 ∧
  ∀ q H', H q = none → Same H H' → H' q = some (.lst (signsOf rows)) → Q (.ref q) H'
theorem leaf_ne {r : Row} : ∃ v, r.vals[0]? = some v ∧ scal v (.str "leaf") = true ∧ (!decide (v = V.str "leaf")) = r.step := by
  cases r with
  | leaf l n => exact ⟨_, rfl, rfl, (by decide +kernel : (!decide (V.str "leaf" = V.str "leaf")) = false)⟩
  | asked wd n => exact ⟨_, rfl, rfl, (by decide +kernel : (!decide (V.str "asked" = V.str "leaf")) = true)⟩
  | done s k => exact ⟨_, rfl, rfl, (by decide +kernel : (!decide (V.str "done" = V.str "leaf")) = true)⟩
theorem atI_0 {α : Type} {xs : List α} {v : α} (h : xs[0]? = some v) : atI xs 0 = some v := atI_at (i := 0) h
theorem atI_1 {α : Type} {xs : List α} {v : α} (h : xs[1]? = some v) : atI xs 1 = some v := atI_at (i := 1) h
theorem row_sign {r : Row} : r.vals[1]? = some (.str (tx r.sign)) := by cases r <;> rfl
theorem ok_Expression_signs (T : Txt K mg a) : FnOk P w K mg base CX0 1 a.f_Expression_signs a.fd_Expression_signs ["self"]  (sp_Expression_signs a) := by
  refine T.F_Expression_signs.ok sc_Expression_signs (fun vs H Q E h => ?_) (fun cdv A outer s H vs Q E hr h => ?_)
  · obtain ⟨_, _, _, rfl, _⟩ := h
    rfl
  · obtain ⟨p, t, rows, rfl, he, hn, k⟩ := h
    obtain ⟨dx, q, xs, hp, hq, hR⟩ := he.ex
    refine ⟨_, ((pss_one (ps_ret (pe_lc (own := [("row", 1)]) (g := gName 1) rfl sc_Expression_signs.nd (pi_list (pe_fld (pv 0) rfl)) (blkOk_by (own := [("row", 1)]) (N := ["self", "row"]) (sc := defScope s_Expression_signs) (by decide +kernel)) (fun _ _ _ _ _ => (pg_name (i := 1) sc_Expression_signs.nd rfl (Or.inl rfl))) (fun _ _ _ _ _ => (pts_one (pt_cmpR op_ne (pe_ix (ix_tupK (K := K)) (pv 1) pe_int (fun _ _ => rfl)) (pe_glob (v := .str "leaf") rfl T.g_LEAF ⟨_, rfl⟩) (nomark _)))) (fun _ _ _ _ _ => (pe_ix (ix_tupK (K := K)) (pv 1) pe_int (fun _ _ => rfl))))))), ?_⟩
    try simp only [cxK]
    lcg_off
    refine lcL (rows := rows) hR.1 (by have := hR.1; omega) (sqL_of hq) Row.step (fun r => .str (tx r.sign)) (fun i x r H1 hx hr1 s1 Done Kept hd hk => ?_) fun D H' hD s1 h1 => k D H' hD s1 h1
    obtain ⟨rq, rfl, ht⟩ := hR.2 i x r hx hr1
    obtain ⟨v, hv, hs, hb⟩ := leaf_ne (r := r)
    lcg_off
    refine ⟨rfl, ?_⟩
    lcg_off
    refine rd_ixT (sqT_of (s1 _ _ ht)) (atI_0 hv) ?_
    lcg_off
    refine rd_ne hs ?_
    rw [hb]
    lcg_off
    refine ifB (fun c => ?_) (fun c => ?_)
    · lcg_off
      refine rd_ixT (sqT_of (s1 _ _ ht)) (atI_1 row_sign) ?_
      exact hk H1 (Same.refl _) c
    · exact hd H1 (Same.refl _) c
def sp_Expression_len (a : Ad) : Sp := fun vs H Q _ => ∃ (p : Addr) (t : List Nat) (rows : List Row), vs = [.ref p] ∧ ExprAt a H p t rows ∧ rows.length ≤ 1000 ∧
  ∀ H', Same H H' → Q (.int (nSteps rows : Nat)) H'
theorem zip_filter_len : ∀ (xs : List V) (rows : List Row), xs.length = rows.length → ((xs.zip rows).filter (fun r => r.2.step)).length = nSteps rows
  | [], [], _ => rfl
  | x :: xs, r :: rows, h => by
    have ih := zip_filter_len xs rows (by simpa using h)
    unfold nSteps at ih ⊢
    rw [List.zip_cons_cons, List.filter_cons, List.filter_cons]
    cases r.step with
    | true => simpa using ih
    | false => simpa using ih
  | [], _ :: _, h => by simp at h
  | _ :: _, [], h => by simp at h
theorem zip_get {xs : List V} {rows : List Row} {i : Nat} {x : V} {r : V × Row} (hx : xs[i]? = some x) (hr : (xs.zip rows)[i]? = some r) : r.1 = x ∧ rows[i]? = some r.2 := by
  rw [List.getElem?_zip_eq_some] at hr
  rw [hx] at hr
  exact ⟨(Option.some.inj hr.1).symm, hr.2⟩
theorem ok_Expression_len (T : Txt K mg a) : FnOk P w K mg base CX0 1 a.f_Expression_len a.fd_Expression_len ["self"]  (sp_Expression_len a) := by
  refine T.F_Expression_len.ok sc_Expression_len (fun vs H Q E h => ?_) (fun cdv A outer s H vs Q E hr h => ?_)
  · obtain ⟨_, _, _, rfl, _⟩ := h
    rfl
  · obtain ⟨p, t, rows, rfl, he, hn, k⟩ := h
    obtain ⟨dx, q, xs, hp, hq, hR⟩ := he.ex
    refine ⟨_, ((pss_one (ps_ret (pe_callB call_lenSeq (by rfl) T.n_len (by decide +kernel) (pa_cons (pe_lc (own := [("row", 1)]) (g := gName 1) rfl sc_Expression_len.nd (pi_list (pe_fld (pv 0) rfl)) (blkOk_by (own := [("row", 1)]) (N := ["self", "row"]) (sc := defScope s_Expression_len) (by decide +kernel)) (fun _ _ _ _ _ => (pg_name (i := 1) sc_Expression_len.nd rfl (Or.inl rfl))) (fun _ _ _ _ _ => (pts_one (pt_cmpR op_ne (pe_ix (ix_tupK (K := K)) (pv 1) pe_int (fun _ _ => rfl)) (pe_glob (v := .str "leaf") rfl T.g_LEAF ⟨_, rfl⟩) (nomark _)))) (fun _ _ _ _ _ => (pv 1))) pa_nil))))), ?_⟩
    try simp only [cxK]
    lcg_off
    refine lcL (rows := xs.zip rows) (by simp [hR.1]) (by have := hR.1; omega) (sqL_of hq) (fun r => r.2.step) (fun r => r.1) (fun i x r H1 hx hr1 s1 Done Kept hd hk => ?_) fun D H' hD s1 h1 => ?_
    · obtain ⟨e1, hr2⟩ := zip_get hx hr1
      obtain ⟨rq, rfl, ht⟩ := hR.2 i x r.2 hx hr2
      obtain ⟨v, hv, hs, hb⟩ := leaf_ne (r := r.2)
      lcg_off
      refine ⟨rfl, ?_⟩
      lcg_off
      refine rd_ixT (sqT_of (s1 _ _ ht)) (atI_0 hv) ?_
      lcg_off
      refine rd_ne hs ?_
      rw [hb]
      lcg_off
      refine ifB (fun c => ?_) (fun c => ?_)
      · lcg_off
        rw [← e1]
        exact hk H1 (Same.refl _) c
      · exact hd H1 (Same.refl _) c
    · lcg_off
      rw [List.length_map, zip_filter_len xs rows hR.1]
      exact k H' s1
def sp_count_steps (K : PySem.W.Frag) : Sp := fun vs H Q _ => ∃ (q : Addr) (xs : List V) (rows : List Row), vs = [.ref q] ∧ H q = some (.lst xs) ∧ RowsAt H xs rows ∧ rows.length ≤ 1000 ∧
  ∀ H', Same H H' → Q (.int (nSteps rows : Nat)) H'
theorem ok_count_steps (T : Txt K mg a) : FnOk P w K mg base CX0 1 a.f_count_steps a.fd_count_steps ["program"]  (sp_count_steps K) := by
  refine T.F_count_steps.ok sc_count_steps (fun vs H Q E h => ?_) (fun cdv A outer s H vs Q E hr h => ?_)
  · obtain ⟨_, _, _, rfl, _⟩ := h
    rfl
  · obtain ⟨q, xs, rows, rfl, hq, hR, hn, k⟩ := h
    refine ⟨_, ((pss_one (ps_ret (pe_callB call_lenSeq (by rfl) T.n_len (by decide +kernel) (pa_cons (pe_lc (own := [("row", 1)]) (g := gName 1) rfl sc_count_steps.nd (pi_list (pv 0)) (blkOk_by (own := [("row", 1)]) (N := ["program", "row"]) (sc := defScope s_count_steps) (by decide +kernel)) (fun _ _ _ _ _ => (pg_name (i := 1) sc_count_steps.nd rfl (Or.inl rfl))) (fun _ _ _ _ _ => (pts_one (pt_cmpR op_ne (pe_ix (ix_tupK (K := K)) (pv 1) pe_int (fun _ _ => rfl)) (pe_glob (v := .str "leaf") rfl T.g_LEAF ⟨_, rfl⟩) (nomark _)))) (fun _ _ _ _ _ => (pv 1))) pa_nil))))), ?_⟩
    try simp only [cxK]
    lcg_off
    refine lcL (rows := xs.zip rows) (by simp [hR.1]) (by have := hR.1; omega) (sqL_of hq) (fun r => r.2.step) (fun r => r.1) (fun i x r H1 hx hr1 s1 Done Kept hd hk => ?_) fun D H' hD s1 h1 => ?_
    · obtain ⟨e1, hr2⟩ := zip_get hx hr1
      obtain ⟨rq, rfl, ht⟩ := hR.2 i x r.2 hx hr2
      obtain ⟨v, hv, hs, hb⟩ := leaf_ne (r := r.2)
      lcg_off
      refine ⟨rfl, ?_⟩
      lcg_off
      refine rd_ixT (sqT_of (s1 _ _ ht)) (atI_0 hv) ?_
      lcg_off
      refine rd_ne hs ?_
      rw [hb]
      lcg_off
      refine ifB (fun c => ?_) (fun c => ?_)
      · lcg_off
        rw [← e1]
        exact hk H1 (Same.refl _) c
      · exact hd H1 (Same.refl _) c
    · lcg_off
      rw [List.length_map, zip_filter_len xs rows hR.1]
      exact k H' s1
def sp_Expression_str (a : Ad) : Sp := fun vs H Q _ => ∃ (p : Addr) (t : List Nat) (rows : List Row), vs = [.ref p] ∧ ExprAt a H p t rows ∧ Q (.str (tx t)) H
theorem ok_Expression_str (T : Txt K mg a) : FnOk P w K mg base CX0 1 a.f_Expression_str a.fd_Expression_str ["self"]  (sp_Expression_str a) := by
  refine T.F_Expression_str.ok sc_Expression_str (fun vs H Q E h => ?_) (fun cdv A outer s H vs Q E hr h => ?_)
  · obtain ⟨_, _, _, rfl, _⟩ := h
    rfl
  · obtain ⟨p, t, rows, rfl, he, k⟩ := h
    obtain ⟨dx, q, xs, hp, hq, hR⟩ := he.ex
    refine ⟨_, ((pss_one (ps_ret (pe_callTy call_strS (by rfl) T.n_str (by decide +kernel) (pa_cons (pe_fld (pv 0) rfl) pa_nil))))), ?_⟩
    try simp only [cxK]
    lcg_off
    exact k
def sp_Expression_eq (a : Ad) : Sp := fun vs H Q _ => ∃ (p p2 : Addr) (t t2 : List Nat) (rows rows2 : List Row), vs = [.ref p, .ref p2] ∧ ExprAt a H p t rows ∧ ExprAt a H p2 t2 rows2 ∧ Q (.bl (decide (t = t2))) H
theorem ok_Expression_eq (T : Txt K mg a) : FnOk P w K mg base CX0 1 a.f_Expression_eq a.fd_Expression_eq ["self", "other"]  (sp_Expression_eq a) := by
  refine T.F_Expression_eq.ok sc_Expression_eq (fun vs H Q E h => ?_) (fun cdv A outer s H vs Q E hr h => ?_)
  · obtain ⟨_, _, _, _, _, _, rfl, _⟩ := h
    rfl
  · obtain ⟨p, p2, t, t2, rows, rows2, rfl, he, he2, k⟩ := h
    obtain ⟨dx, q, xs, hp, hq, hR⟩ := he.ex
    obtain ⟨dx2, q2, xs2, hp2, hq2, hR2⟩ := he2.ex
    refine ⟨_, ((pss_one (ps_ret (pe_and (pe_callB call_isi (by rfl) T.n_isinstance (by decide +kernel) (pa_cons (pv 1) (pa_cons (pe_glob (v := .ref _) rfl T.g_Expression rfl) pa_nil))) (pe_one (pe_cmpR op_eq (pe_fld (pv 0) rfl) (pe_fld (pv 1) rfl) (nomark _))))))), ?_⟩
    try simp only [cxK]
    lcg_off
    refine rd_isi_own T.ty_Expression hp2 ?_
    lcg_off
    refine iteT ?_
    lcg_off
    exact k
end
end K31

namespace K31
open PySem L2 Hk
local macro_rules | `(tactic| array_mem_dec) => `(tactic| first
  | assumption | exact upd_same
  | (apply upd_new; assumption; array_mem_dec)
  | (apply upd_old; tlg_ne; array_mem_dec)
  | (apply same_at; assumption; array_mem_dec))
local macro_rules | `(tactic| tlg_ne) => `(tactic| first
  | assumption | (apply Ne.symm; assumption)
  | (apply ne_new; assumption; array_mem_dec) | (apply ne_new'; assumption; array_mem_dec)
  | (apply ne_of; assumption; assumption; (intro z; cases z; done)))
local macro_rules | `(tactic| decreasing_trivial_pre_omega) => `(tactic| first
  | assumption | (apply sqL_of; array_mem_dec) | (apply sqT_of; array_mem_dec)
  | (apply Same.seq; assumption; decreasing_trivial_pre_omega) | (apply sqT_same; assumption; decreasing_trivial_pre_omega)
  | (apply sqL_new; assumption; decreasing_trivial_pre_omega) | (apply sqL_upd; tlg_ne; decreasing_trivial_pre_omega))
local macro_rules | `(tactic| kpt_turns) => `(tactic| first
  | assumption | exact Same.refl _ | (apply same_ext; kpt_turns; assumption) | (apply same_mut; kpt_turns; keq_hits) | (apply same_step; assumption; kpt_turns))
local macro_rules | `(tactic| keq_hits) => `(tactic| first | assumption | (apply same_none; assumption; keq_hits))
local macro_rules | `(tactic| sizeOf_list_dec) => `(tactic| first | (with_reducible assumption) | (with_reducible_and_instances omega) | (with_unfolding_all decide))
local macro_rules | `(tactic| array_get_dec) => `(tactic| first | (with_reducible assumption) | (apply sz_of; (with_unfolding_all simp); done) | (apply sz_of; omega) | (apply sz_lt; (with_unfolding_all simp); done) | (apply sz_lt; omega))
local macro_rules | `(tactic| keq_rows) => `(tactic| with_reducible first
  | refine rd_asgN ?_ | refine rd_seq ?_ | refine rd_asg ?_ | refine rd_gname ?_ | refine rd_op ?_ | refine rd_var (by with_unfolding_all rfl) ?_ | refine rd_c ?_ | refine rd_I0 ?_
  | refine rd_cons ?_ | refine rd_nil ?_ | refine rd_cb ?_ | refine rd_test ?_ | refine rd_bl ?_ | refine rd_fld ?_ | refine rd_drop ?_ | refine rd_ret ?_ | refine rd_retN ?_ | refine rd_next ?_
  | refine rd_ifS ?_ | refine rd_un ?_ | refine rd_B ?_ | refine rd_and ?_ | refine rd_or ?_ | refine rd_not ?_ | refine rd_andV ?_ | refine rd_orV ?_ | refine rd_notV ?_ | refine rd_if ?_
  | refine rd_int ?_ | refine rd_abs ?_ | refine rd_max ?_ | refine rd_min ?_ | refine rd_strS ?_ | refine rd_U ?_
  | refine rd_eqTx ?_ | refine rd_neTx ?_ | refine rd_inTx ?_ | refine rd_notInTx ?_ | refine rd_fmt ?_ | refine rd_fmtT (by omega) ?_ | refine rd_jsC ?_ | refine rd_jsN ?_ | refine rd_JsK (by (try simp); omega) ?_ | refine rd_addT (by (try simp); omega) ?_ | refine rd_lenTx (by omega) ?_
  | refine rd_eq (by with_unfolding_all rfl) ?_ | refine rd_ne (by with_unfolding_all rfl) ?_ | refine rd_isNone ?_ | refine rd_notNone ?_
  | refine rd_ixL (by decreasing_trivial_pre_omega) (by with_unfolding_all rfl) ?_ | refine rd_ixT (by decreasing_trivial_pre_omega) (by with_unfolding_all rfl) ?_
  | refine rd_lenL (by decreasing_trivial_pre_omega) ?_ | refine rd_lenT (by decreasing_trivial_pre_omega) ?_
  | refine rd_mod (by sizeOf_list_dec) ?_ | refine rd_div (by sizeOf_list_dec) (by sizeOf_list_dec) ?_ | refine rd_mulR (by sizeOf_list_dec) (by sizeOf_list_dec) ?_ | refine rd_mulL (by sizeOf_list_dec) (by sizeOf_list_dec) ?_ | refine rd_pow (by sizeOf_list_dec) ?_
  | refine rd_setL (by array_mem_dec) (by with_unfolding_all rfl) ?_
  | refine rd_slL (by decreasing_trivial_pre_omega) ?_ | refine rd_inSign ?_ | refine rd_notInSign ?_ | refine rd_tup ?_ | refine rd_lst ?_ | refine rd_sl ?_ | refine rd_noPart ?_ | refine rd_part ?_ | refine rd_isInt ?_
  | refine rd_gsub ?_ | refine rd_gcons ?_ | refine rd_gnil ?_ | refine rd_call ?_ | refine rd_meth ?_ | refine rd_make ?_ | refine rd_smeth ?_ | refine rd_isC ?_ | refine rd_smethK ?_ | refine rd_cmeth ?_ | refine rd_cmethK ?_
  | refine rd_bm ?_ | refine rd_bm0 ?_ | refine rd_bmL (by array_mem_dec) ?_ | refine rd_bm0L (by array_mem_dec) ?_ | refine rd_sfld ?_ | refine rd_aug ?_ | refine rd_rAdd ?_ | refine rd_brk ?_ | refine rd_cont ?_
  | refine rd_for ?_ | refine rd_iList ?_ | refine rd_IList (by decreasing_trivial_pre_omega) ?_ | refine rd_iTup ?_ | refine rd_ITup (by decreasing_trivial_pre_omega) ?_ | refine rd_iEnum ?_ | refine rd_IEnum (by decreasing_trivial_pre_omega) ?_ | refine rd_iRng1 ?_ | refine rd_IRng1 (by sizeOf_list_dec) (by sizeOf_list_dec) ?_
  | refine rd_new (by array_get_dec) ?_ | refine rd_lenS (by array_get_dec) ?_ | refine rd_addS (by array_get_dec) ?_ | refine rd_slS (by array_get_dec) ?_ | refine rd_lc ?_ | refine rd_yes ?_ | refine rd_gtup (by decreasing_trivial_pre_omega) (by with_unfolding_all rfl) ?_ | refine rd_makeL (by with_unfolding_all rfl) ?_)
local macro_rules | `(tactic| kas_types) => `(tactic| with_reducible first | refine rd_isi_int_int ?_ | refine rd_isi_int_bool ?_ | refine rd_isi_int_str ?_ | refine rd_isi_int_list ?_ | refine rd_isi_int_tuple ?_ | refine rd_isi_bool_int ?_ | refine rd_isi_bool_bool ?_ | refine rd_isi_bool_str ?_ | refine rd_isi_bool_list ?_ | refine rd_isi_bool_tuple ?_ | refine rd_isi_str_int ?_ | refine rd_isi_str_bool ?_ | refine rd_isi_str_str ?_ | refine rd_isi_str_list ?_ | refine rd_isi_str_tuple ?_ | refine rd_isi_list_int (by array_mem_dec) ?_ | refine rd_isi_list_bool (by array_mem_dec) ?_ | refine rd_isi_list_str (by array_mem_dec) ?_ | refine rd_isi_list_list (by array_mem_dec) ?_ | refine rd_isi_list_tuple (by array_mem_dec) ?_ | refine rd_isi_tuple_int (by array_mem_dec) ?_ | refine rd_isi_tuple_bool (by array_mem_dec) ?_ | refine rd_isi_tuple_str (by array_mem_dec) ?_ | refine rd_isi_tuple_list (by array_mem_dec) ?_ | refine rd_isi_tuple_tuple (by array_mem_dec) ?_ | refine rd_isi_NoneType_int ?_ | refine rd_isi_NoneType_bool ?_ | refine rd_isi_NoneType_str ?_ | refine rd_isi_NoneType_list ?_ | refine rd_isi_NoneType_tuple ?_)
local macro_rules | `(tactic| lcg_src) => `(tactic| repeat keq_rows)

local macro_rules | `(tactic| lcg_sub) => `(tactic| with_reducible first | refine fldE_text (by assumption) (by array_mem_dec) ?_ | refine fldE_program (by assumption) (by array_mem_dec) ?_)
local macro_rules | `(tactic| lcg_off) => `(tactic| repeat (first | keq_rows | lcg_sub))
/-! ### pairs of texts as data -/
def okT (l : List Nat) : Prop := ∀ c ∈ l, c < 128
def pairD (p : List Nat × List Nat) : PyData := .tuple [.str (tx p.1), .str (tx p.2)]
def okP (p : List Nat × List Nat) : Prop := okT p.1 ∧ okT p.2
theorem okT_str {l : List Nat} (h : okT l) : PyData.strOk (tx l) = true := by
  unfold PyData.strOk tx
  rw [Array.all_eq_true']
  intro x hx
  have := h x (by simpa using hx)
  simp
  omega
theorem pairD_lay {p : List Nat × List Nat} (h : okP p) : (pairD p).canLay0 = true := by simp [pairD, PyData.canLay0, PyData.canLayAll0, okT_str h.1, okT_str h.2]
theorem pairD_depth (p : List Nat × List Nat) : (pairD p).depth = 1 := by simp [pairD, PyData.depth, PyData.depthAll]
theorem pairDs_lay : ∀ ps : List (List Nat × List Nat), (∀ p ∈ ps, okP p) → PyData.canLayAll0 (ps.map pairD) = true
  | [], _ => by simp [PyData.canLayAll0]
  | z :: zs, h => by simp [PyData.canLayAll0, pairD_lay (h z (by simp)), pairDs_lay zs fun p hp => h p (by simp [hp])]
theorem pairDs_depth : ∀ ps : List (List Nat × List Nat), PyData.depthAll (ps.map pairD) ≤ 1
  | [] => by simp [PyData.depthAll]
  | z :: zs => by
    have h1 := pairDs_depth zs
    have h2 := pairD_depth z
    simp only [List.map_cons, PyData.depthAll]
    omega
theorem pairD_shaped {p : List Nat × List Nat} (h : okP p) : SeqAt.shaped (pairD p) = true := by
  have e := pairD_depth p
  show ((pairD p).canLay0 && decide ((pairD p).depth ≤ 64)) = true
  rw [Bool.and_eq_true]
  exact ⟨pairD_lay h, decide_eq_true (by omega)⟩
theorem pairDs_shaped {ps : List (List Nat × List Nat)} (h : ∀ p ∈ ps, okP p) : SeqAt.shaped (.list (ps.map pairD)) = true := by
  have h1 := pairDs_depth ps
  have h2 : PyData.depth (.list (ps.map pairD)) ≤ 64 := by
    simp only [PyData.depth]
    omega
  show (PyData.canLay0 (.list (ps.map pairD)) && decide (PyData.depth (.list (ps.map pairD)) ≤ 64)) = true
  rw [Bool.and_eq_true]
  exact ⟨by simp only [PyData.canLay0]; exact pairDs_lay ps h, decide_eq_true h2⟩
theorem pairD_eqv (p q : List Nat × List Nat) : PyData.eqv (pairD p) (pairD q) = decide (p = q) := by
  obtain ⟨a, b⟩ := p
  obtain ⟨c, d⟩ := q
  have e : PyData.eqv (pairD (a, b)) (pairD (c, d)) = ((tx a == tx c) && ((tx b == tx d) && true)) := by simp only [pairD, PyData.eqv, PyData.eqvAll]
  rw [e]
  by_cases h1 : a = c
  · by_cases h2 : b = d
    · subst h1 h2
      simp
    · have : ¬ tx b = tx d := fun z => h2 (tx_inj.mp z)
      simp [this, h2]
  · have : ¬ tx a = tx c := fun z => h1 (tx_inj.mp z)
    simp [this, h1]
def PairsAt (H : Hp) (xs : List V) (ps : List (List Nat × List Nat)) : Prop := xs.length = ps.length ∧ ∀ (i : Nat) x p, xs[i]? = some x → ps[i]? = some p → ∃ r, x = .ref r ∧ H r = some (.tup [.str (tx p.1), .str (tx p.2)])
theorem PairsAt.mono {H H' : Hp} {xs : List V} {ps : List (List Nat × List Nat)} (e : Same H H') (h : PairsAt H xs ps) : PairsAt H' xs ps := ⟨h.1, fun i x r h1 h2 => let ⟨q, hq, ht⟩ := h.2 i x r h1 h2; ⟨q, hq, e _ _ ht⟩⟩
theorem PairsAt.monoT {H H' : Hp} {xs : List V} {ps : List (List Nat × List Nat)} (h : PairsAt H xs ps) (e : ∀ r ys, H r = some (.tup ys) → H' r = some (.tup ys)) : PairsAt H' xs ps := ⟨h.1, fun i x r h1 h2 => let ⟨q, hq, ht⟩ := h.2 i x r h1 h2; ⟨q, hq, e _ _ ht⟩⟩
theorem any_pair {ps : List (List Nat × List Nat)} {p : List Nat × List Nat} : ((ps.map pairD).any fun z => PyData.eqv z (pairD p)) = decide (p ∈ ps) := by
  induction ps with
  | nil => simp
  | cons q ps ih =>
    rw [List.map_cons, List.any_cons, ih, pairD_eqv]
    by_cases h1 : q = p
    · subst h1
      simp
    · have h2 : ¬ p = q := fun z => h1 z.symm
      simp [h1, h2]
theorem PairsAt.nil {H : Hp} : PairsAt H [] [] := ⟨rfl, fun i x p h _ => by simp at h⟩
theorem PairsAt.tail {H : Hp} {x : V} {xs : List V} {p : List Nat × List Nat} {ps : List (List Nat × List Nat)} (h : PairsAt H (x :: xs) (p :: ps)) : (∃ r, x = .ref r ∧ H r = some (.tup [.str (tx p.1), .str (tx p.2)])) ∧ PairsAt H xs ps :=
  ⟨h.2 0 x p rfl rfl, by have := h.1; simpa using this, fun i y q h1 h2 => h.2 (i + 1) y q (by simpa using h1) (by simpa using h2)⟩
theorem PairsAt.snoc {H : Hp} {xs : List V} {ps : List (List Nat × List Nat)} {r : Addr} {p : List Nat × List Nat} (h : PairsAt H xs ps) (hr : H r = some (.tup [.str (tx p.1), .str (tx p.2)])) : PairsAt H (xs ++ [.ref r]) (ps ++ [p]) := by
  refine ⟨by simp [h.1], fun i x q h1 h2 => ?_⟩
  by_cases hi : i < xs.length
  · rw [List.getElem?_append_left hi] at h1
    rw [List.getElem?_append_left (by rw [← h.1]; exact hi)] at h2
    exact h.2 i x q h1 h2
  · have e1 : i - xs.length = 0 := by
      rw [List.getElem?_append_right (by omega)] at h1
      have := (List.getElem?_eq_some_iff.mp h1).1
      simp at this
      omega
    rw [List.getElem?_append_right (by omega), e1] at h1
    rw [List.getElem?_append_right (by have := h.1; omega), ← h.1, e1] at h2
    simp at h1 h2
    subst h1 h2
    exact ⟨r, rfl, hr⟩
theorem PairsAt.dp {K : PySem.W.Frag} {H : Hp} : ∀ {xs : List V} {ps : List (List Nat × List Nat)}, PairsAt H xs ps → DpAll K H xs (ps.map pairD)
  | [], [], _ => .nil
  | x :: xs, p :: ps, h => by
    obtain ⟨⟨r, rfl, hr⟩, h2⟩ := h.tail
    exact .cons (.tup (sqT_of hr) (.cons (.str _) (.cons (.str _) .nil))) h2.dp
  | [], _ :: _, h => by have := h.1; simp at this
  | _ :: _, [], h => by have := h.1; simp at this
/-! ### the leaves -/
def addLeaf (acc : List (List Nat × List Nat)) : Row → List (List Nat × List Nat)
  | .leaf l n => if (l, n) ∈ acc then acc else acc ++ [(l, n)]
  | _ => acc
def leavesOf (rows : List Row) : List (List Nat × List Nat) := rows.foldl addLeaf []
def Row.ok : Row → Prop
  | .leaf l n => okT l ∧ okT n
  | .asked wd n => okT wd ∧ okT n
  | .done s _ => okT s
theorem leaves_succ {rows : List Row} {i : Nat} {r : Row} (h : rows[i]? = some r) : leavesOf (rows.take (i + 1)) = addLeaf (leavesOf (rows.take i)) r := by
  unfold leavesOf
  rw [List.take_add_one, h, List.foldl_append]
  rfl
theorem addLeaf_ok {acc : List (List Nat × List Nat)} {r : Row} (h : ∀ p ∈ acc, okP p) (hr : r.ok) : ∀ p ∈ addLeaf acc r, okP p := by
  cases r with
  | leaf l n =>
    show ∀ p ∈ (if (l, n) ∈ acc then acc else acc ++ [(l, n)]), okP p
    by_cases hm : (l, n) ∈ acc
    · rw [if_pos hm]
      exact h
    · rw [if_neg hm]
      intro p hp
      rcases List.mem_append.mp hp with q | q
      · exact h p q
      · rw [List.mem_singleton.mp q]
        exact hr
  | asked wd n => exact h
  | done s k => exact h
theorem addLeaf_len {acc : List (List Nat × List Nat)} {r : Row} : (addLeaf acc r).length ≤ acc.length + 1 := by
  cases r with
  | leaf l n =>
    show (if (l, n) ∈ acc then acc else acc ++ [(l, n)]).length ≤ _
    by_cases hm : (l, n) ∈ acc
    · rw [if_pos hm]
      omega
    · rw [if_neg hm]
      simp
  | asked wd n => simp [addLeaf]
  | done s k => simp [addLeaf]
section
variable {P : Program} {w : World} {K : PySem.W.Frag} {mg : Str → Option Value} {base : Heap} {a : Ad}
def sp_Expression_leaves (a : Ad) : Sp := fun vs H Q _ => ∃ (p : Addr) (t : List Nat) (rows : List Row), vs = [.ref p] ∧ ExprAt a H p t rows ∧ rows.length ≤ 1000 ∧ (∀ r ∈ rows, r.ok) ∧
  ∀ q xs H', H q = none → Same H H' → H' q = some (.lst xs) → PairsAt H' xs (leavesOf rows) → (∀ (i : Nat) r, xs[i]? = some (.ref r) → H r = none) → Q (.ref q) H'
theorem ok_Expression_leaves (T : Txt K mg a) : FnOk P w K mg base CX0 1 a.f_Expression_leaves a.fd_Expression_leaves ["self"]  (sp_Expression_leaves a) := by
  refine T.F_Expression_leaves.ok sc_Expression_leaves (fun vs H Q E h => ?_) (fun cdv A outer s H vs Q E hr h => ?_)
  · obtain ⟨_, _, _, rfl, _⟩ := h
    rfl
  · obtain ⟨p, t, rows, rfl, he, hn, hok, k⟩ := h
    obtain ⟨dx, q, xs, hp, hq, hR⟩ := he.ex
    refine ⟨_, ((pss_cons (ps_set (i := 1) sc_Expression_leaves.nd rfl (Or.inl rfl) (pe_lst pa_nil))
 (pss_cons (ps_for PassesOwn.never rfl (pi_list (pe_fld (pv 0) rfl)) (pg_tup rfl (pgs_cons (pg_name (i := 2) sc_Expression_leaves.nd rfl (Or.inl rfl)) (pgs_cons (pg_name (i := 3) sc_Expression_leaves.nd rfl (Or.inl rfl)) (pgs_cons (pg_name (i := 4) sc_Expression_leaves.nd rfl (Or.inl rfl)) pgs_nil))))
 (pss_one (ps_if (PW.pt (pw_and (pt_cmpR op_eq (pv 2) (pe_glob (v := .str "leaf") rfl T.g_LEAF ⟨_, rfl⟩) (nomark _)) (pw_and1 (pt_cmpR (op_notInD (units65 hr)) (pe_tup (pa_cons (pv 3) (pa_cons (pv 4) pa_nil))) (pv 1) (by rfl)))))
 (pss_one (ps_expr (pe_bm PySem.F.plainAttrs_list PySem.F.slot_list_append PySem.F.type_list_append mt_append (pv 1) (pa_cons (pe_tup (pa_cons (pv 3) (pa_cons (pv 4) pa_nil))) pa_nil))))
 pss_nil)))
 (pss_one (ps_ret (pv 1)))))), ?_⟩
    try simp only [cxK]
    lcg_off
    intro f hf
    lcg_off
    refine fk_list (xs := xs) (fun i σ H2 => Same H H2 ∧ ∃ (fs : List V) (u v y : Option V), σ = [some (.ref p), some (.ref f), u, v, y] ∧ H2 f = some (.lst fs) ∧ PairsAt H2 fs (leavesOf (rows.take i)) ∧ fs.length ≤ i ∧ (∀ z ∈ leavesOf (rows.take i), okP z) ∧ ∀ (j : Nat) r, fs[j]? = some (.ref r) → H r = none)
      ⟨same_new hf, [], none, none, none, rfl, upd_same, PairsAt.nil, Nat.le_refl _, (fun z hz => by simp [leavesOf] at hz), (fun j r h => by simp at h)⟩ (fun i σ H2 _ ⟨s2, _⟩ => sqL_of (s2 _ _ hq)) ?_ ?_
    · rintro i x σ H2 hx ⟨s2, fs, u, v, y, rfl, hf2, hP, hl, hoks, hnew⟩
      have hi : i < rows.length := by
        have := (List.getElem?_eq_some_iff.mp hx).1
        have := hR.1
        omega
      have hr1 : rows[i]? = some rows[i] := List.getElem?_eq_getElem hi
      have hrok : rows[i].ok := hok _ (List.getElem_mem hi)
      obtain ⟨rq, rfl, ht⟩ := hR.2 i x _ hx hr1
      have ht2 := s2 _ _ ht
      rw [leaves_succ hr1]
      generalize rows[i] = r at ht2 hrok
      generalize hacc : leavesOf (rows.take i) = acc at hP hoks
      cases r with
      | leaf l n =>
        refine rd_gtup (xs := [.str "leaf", .str (tx l), .str (tx n)]) (sqT_of ht2) (by with_unfolding_all rfl) ?_
        lcg_off
        refine ifT (by decide +kernel) ?_
        lcg_off
        intro T0 hT
        lcg_off
        have hne : f ≠ T0 := ne_of_none hf2 hT
        have hP2 : PairsAt (upd H2 T0 (.tup [.str (tx l), .str (tx n)])) fs acc := hP.mono (same_new hT)
        refine ⟨pairD (l, n), acc.map pairD, .tup (sqT_of upd_same) (.cons (.str _) (.cons (.str _) .nil)), .lst (sqL_of (upd_old hne hf2)) hP2.dp, pairD_shaped hrok, pairDs_shaped hoks, ?_⟩
        rw [any_pair]
        lcg_off
        show if (!decide ((l, n) ∈ acc)) = true then _ else _
        refine ifN (fun c => ?_) (fun c => ?_)
        · lcg_off
          intro T1 hT1
          lcg_off
          have hne1 : f ≠ T1 := ne_of_none (upd_old hne hf2) hT1
          refine rd_append (upd_old hne1 (upd_old hne hf2)) (sz_lt (by omega)) ?_
          have e1 : addLeaf acc (.leaf l n) = acc ++ [(l, n)] := if_neg c
          have nT1 : H2 T1 = none := (same_new hT).free hT1
          rw [e1]
          refine ⟨?_, fs ++ [.ref T1], _, _, _, rfl, upd_same, ?_, by simp; omega, ?_, ?_⟩
          · exact same_mut ((s2.trans (same_new hT)).trans (same_new hT1)) hf
          · refine PairsAt.snoc (p := (l, n)) ?_ (upd_old hne1.symm upd_same)
            have hP3 : PairsAt (upd (upd H2 T0 (.tup [.str (tx l), .str (tx n)])) T1 (.tup [.str (tx l), .str (tx n)])) fs acc := hP2.mono (same_new hT1)
            refine hP3.monoT fun r ys h => ?_
            refine upd_old (ne_of h (upd_old hne1 (upd_old hne hf2)) (by intro z; cases z)) h
          · have := addLeaf_ok hoks (show (Row.leaf l n).ok from hrok)
            rw [e1] at this
            exact this
          · intro j r h
            by_cases hj : j < fs.length
            · rw [List.getElem?_append_left hj] at h
              exact hnew j r h
            · have hj2 : j - fs.length = 0 := by
                rw [List.getElem?_append_right (by omega)] at h
                have := (List.getElem?_eq_some_iff.mp h).1
                simp at this
                omega
              rw [List.getElem?_append_right (by omega), hj2] at h
              simp at h
              rw [← h]
              exact s2.free nT1
        · have e1 : addLeaf acc (.leaf l n) = acc := if_pos c
          rw [e1]
          exact ⟨s2.trans (same_new hT), fs, _, _, _, rfl, upd_old hne hf2, hP2, by omega, hoks, hnew⟩
      | asked wd n =>
        refine rd_gtup (xs := [.str "asked", .str (tx wd), .str (tx n)]) (sqT_of ht2) (by with_unfolding_all rfl) ?_
        lcg_off
        refine ifF (by decide +kernel) ?_
        refine iteF ?_
        lcg_off
        exact ⟨s2, fs, _, _, _, rfl, hf2, hP, by omega, hoks, hnew⟩
      | done sg kk =>
        refine rd_gtup (xs := [.str "done", .str (tx sg), .int kk]) (sqT_of ht2) (by with_unfolding_all rfl) ?_
        lcg_off
        refine ifF (by decide +kernel) ?_
        refine iteF ?_
        lcg_off
        exact ⟨s2, fs, _, _, _, rfl, hf2, hP, by omega, hoks, hnew⟩
    · rintro σ H2 ⟨s2, fs, u, v, y, rfl, hf2, hP, hl, hoks, hnew⟩
      rw [hR.1, List.take_length] at hP
      lcg_off
      exact k f fs H2 hf s2 hf2 hP hnew
end
end K31

namespace K31
open PySem L2 Hk
local macro_rules | `(tactic| array_mem_dec) => `(tactic| first
  | assumption | exact upd_same
  | (apply upd_new; assumption; array_mem_dec)
  | (apply upd_old; tlg_ne; array_mem_dec)
  | (apply same_at; assumption; array_mem_dec))
local macro_rules | `(tactic| tlg_ne) => `(tactic| first
  | assumption | (apply Ne.symm; assumption)
  | (apply ne_new; assumption; array_mem_dec) | (apply ne_new'; assumption; array_mem_dec)
  | (apply ne_of; assumption; assumption; (intro z; cases z; done)))
local macro_rules | `(tactic| decreasing_trivial_pre_omega) => `(tactic| first
  | assumption | (apply sqL_of; array_mem_dec) | (apply sqT_of; array_mem_dec)
  | (apply Same.seq; assumption; decreasing_trivial_pre_omega) | (apply sqT_same; assumption; decreasing_trivial_pre_omega)
  | (apply sqL_new; assumption; decreasing_trivial_pre_omega) | (apply sqL_upd; tlg_ne; decreasing_trivial_pre_omega))
local macro_rules | `(tactic| kpt_turns) => `(tactic| first
  | assumption | exact Same.refl _ | (apply same_ext; kpt_turns; assumption) | (apply same_mut; kpt_turns; keq_hits) | (apply same_step; assumption; kpt_turns))
local macro_rules | `(tactic| keq_hits) => `(tactic| first | assumption | (apply same_none; assumption; keq_hits))
local macro_rules | `(tactic| sizeOf_list_dec) => `(tactic| first | (with_reducible assumption) | (with_reducible_and_instances omega) | (with_unfolding_all decide))
local macro_rules | `(tactic| array_get_dec) => `(tactic| first | (with_reducible assumption) | (apply sz_of; (with_unfolding_all simp); done) | (apply sz_of; omega) | (apply sz_lt; (with_unfolding_all simp); done) | (apply sz_lt; omega))
local macro_rules | `(tactic| keq_rows) => `(tactic| with_reducible first
  | refine rd_asgN ?_ | refine rd_seq ?_ | refine rd_asg ?_ | refine rd_gname ?_ | refine rd_op ?_ | refine rd_var (by with_unfolding_all rfl) ?_ | refine rd_c ?_ | refine rd_I0 ?_
  | refine rd_cons ?_ | refine rd_nil ?_ | refine rd_cb ?_ | refine rd_test ?_ | refine rd_bl ?_ | refine rd_fld ?_ | refine rd_drop ?_ | refine rd_ret ?_ | refine rd_retN ?_ | refine rd_next ?_
  | refine rd_ifS ?_ | refine rd_un ?_ | refine rd_B ?_ | refine rd_and ?_ | refine rd_or ?_ | refine rd_not ?_ | refine rd_andV ?_ | refine rd_orV ?_ | refine rd_notV ?_ | refine rd_if ?_
  | refine rd_int ?_ | refine rd_abs ?_ | refine rd_max ?_ | refine rd_min ?_ | refine rd_strS ?_ | refine rd_U ?_
  | refine rd_eqTx ?_ | refine rd_neTx ?_ | refine rd_inTx ?_ | refine rd_notInTx ?_ | refine rd_fmt ?_ | refine rd_fmtT (by omega) ?_ | refine rd_jsC ?_ | refine rd_jsN ?_ | refine rd_JsK (by (try simp); omega) ?_ | refine rd_addT (by (try simp); omega) ?_ | refine rd_lenTx (by omega) ?_
  | refine rd_eq (by with_unfolding_all rfl) ?_ | refine rd_ne (by with_unfolding_all rfl) ?_ | refine rd_isNone ?_ | refine rd_notNone ?_
  | refine rd_ixL (by decreasing_trivial_pre_omega) (by with_unfolding_all rfl) ?_ | refine rd_ixT (by decreasing_trivial_pre_omega) (by with_unfolding_all rfl) ?_
  | refine rd_lenL (by decreasing_trivial_pre_omega) ?_ | refine rd_lenT (by decreasing_trivial_pre_omega) ?_
  | refine rd_mod (by sizeOf_list_dec) ?_ | refine rd_div (by sizeOf_list_dec) (by sizeOf_list_dec) ?_ | refine rd_mulR (by sizeOf_list_dec) (by sizeOf_list_dec) ?_ | refine rd_mulL (by sizeOf_list_dec) (by sizeOf_list_dec) ?_ | refine rd_pow (by sizeOf_list_dec) ?_
  | refine rd_setL (by array_mem_dec) (by with_unfolding_all rfl) ?_
  | refine rd_slL (by decreasing_trivial_pre_omega) ?_ | refine rd_inSign ?_ | refine rd_notInSign ?_ | refine rd_tup ?_ | refine rd_lst ?_ | refine rd_sl ?_ | refine rd_noPart ?_ | refine rd_part ?_ | refine rd_isInt ?_
  | refine rd_gsub ?_ | refine rd_gcons ?_ | refine rd_gnil ?_ | refine rd_call ?_ | refine rd_meth ?_ | refine rd_make ?_ | refine rd_smeth ?_ | refine rd_isC ?_ | refine rd_smethK ?_ | refine rd_cmeth ?_ | refine rd_cmethK ?_
  | refine rd_bm ?_ | refine rd_bm0 ?_ | refine rd_bmL (by array_mem_dec) ?_ | refine rd_bm0L (by array_mem_dec) ?_ | refine rd_sfld ?_ | refine rd_aug ?_ | refine rd_rAdd ?_ | refine rd_brk ?_ | refine rd_cont ?_
  | refine rd_for ?_ | refine rd_iList ?_ | refine rd_IList (by decreasing_trivial_pre_omega) ?_ | refine rd_iTup ?_ | refine rd_ITup (by decreasing_trivial_pre_omega) ?_ | refine rd_iEnum ?_ | refine rd_IEnum (by decreasing_trivial_pre_omega) ?_ | refine rd_iRng1 ?_ | refine rd_IRng1 (by sizeOf_list_dec) (by sizeOf_list_dec) ?_
  | refine rd_new (by array_get_dec) ?_ | refine rd_lenS (by array_get_dec) ?_ | refine rd_addS (by array_get_dec) ?_ | refine rd_slS (by array_get_dec) ?_ | refine rd_lc ?_ | refine rd_yes ?_ | refine rd_gtup (by decreasing_trivial_pre_omega) (by with_unfolding_all rfl) ?_ | refine rd_makeL (by with_unfolding_all rfl) ?_)
local macro_rules | `(tactic| kas_types) => `(tactic| with_reducible first | refine rd_isi_int_int ?_ | refine rd_isi_int_bool ?_ | refine rd_isi_int_str ?_ | refine rd_isi_int_list ?_ | refine rd_isi_int_tuple ?_ | refine rd_isi_bool_int ?_ | refine rd_isi_bool_bool ?_ | refine rd_isi_bool_str ?_ | refine rd_isi_bool_list ?_ | refine rd_isi_bool_tuple ?_ | refine rd_isi_str_int ?_ | refine rd_isi_str_bool ?_ | refine rd_isi_str_str ?_ | refine rd_isi_str_list ?_ | refine rd_isi_str_tuple ?_ | refine rd_isi_list_int (by array_mem_dec) ?_ | refine rd_isi_list_bool (by array_mem_dec) ?_ | refine rd_isi_list_str (by array_mem_dec) ?_ | refine rd_isi_list_list (by array_mem_dec) ?_ | refine rd_isi_list_tuple (by array_mem_dec) ?_ | refine rd_isi_tuple_int (by array_mem_dec) ?_ | refine rd_isi_tuple_bool (by array_mem_dec) ?_ | refine rd_isi_tuple_str (by array_mem_dec) ?_ | refine rd_isi_tuple_list (by array_mem_dec) ?_ | refine rd_isi_tuple_tuple (by array_mem_dec) ?_ | refine rd_isi_NoneType_int ?_ | refine rd_isi_NoneType_bool ?_ | refine rd_isi_NoneType_str ?_ | refine rd_isi_NoneType_list ?_ | refine rd_isi_NoneType_tuple ?_)
local macro_rules | `(tactic| lcg_src) => `(tactic| repeat keq_rows)

/-! ### the reader's mirror -/
structure RS where
  i : Nat
  ns : List (List Nat × Nat)
  rows : List Row
def lead : Nat → List Nat → Nat
  | 0, _ => 0
  | _ + 1, [] => 0
  | n + 1, c :: r => if c ∈ smalls then lead n r + 1 else 0
def mSkip (t l : List Nat) (st : RS) : Option RS := match t[st.i]? with
  | some c => if c ∈ l then some { st with i := st.i + 1 } else none
  | none => none
def mWord (t : List Nat) (n : Nat) (st : RS) : List Nat := (t.drop st.i).take (lead n (t.drop st.i))
def mLetters (t : List Nat) (n : Nat) (st : RS) : RS := { st with i := st.i + lead n (t.drop st.i) }
def mClass (t : List Nat) (st : RS) : Option (List Nat × RS) := (mSkip t capitals st).map fun st1 => ((t.drop st.i).take ((mLetters t 7 st1).i - st.i), mLetters t 7 st1)
def unaries : List (List Nat) := [[110, 101, 103], [112, 111, 115], [97, 98, 115], [105, 110, 118, 101, 114, 116]]
def mRequest (t : List Nat) (st : RS) : Option RS := (mClass t st).bind fun (n, st1) => (mSkip t [46] st1).bind fun st2 =>
  if mWord t 8 st2 = [] ∨ mWord t 8 st2 ∈ unaries then none else some { mLetters t 8 st2 with rows := st2.rows ++ [.asked (mWord t 8 st2) n] }
theorem lead_le (n : Nat) : ∀ l : List Nat, lead n l ≤ l.length ∧ lead n l ≤ n := by
  induction n with
  | zero => intro l; simp [lead]
  | succ n ih =>
    intro l
    cases l with
    | nil => simp [lead]
    | cons c r =>
      have := ih r
      unfold lead
      split
      · simp; omega
      · simp
theorem lead_step {n i : Nat} {t : List Nat} {c : Nat} (h : t[i]? = some c) (hc : c ∈ smalls) : lead (n + 1) (t.drop i) = lead n (t.drop (i + 1)) + 1 := by
  have hi := (List.getElem?_eq_some_iff.mp h)
  obtain ⟨hi, e⟩ := hi
  rw [List.drop_eq_getElem_cons hi, e]
  show (if c ∈ smalls then lead n (t.drop (i + 1)) + 1 else 0) = _
  rw [if_pos hc]
theorem lead_stop {n i : Nat} {t : List Nat} {c : Nat} (h : t[i]? = some c) (hc : c ∉ smalls) : lead n (t.drop i) = 0 := by
  obtain ⟨hi, e⟩ := List.getElem?_eq_some_iff.mp h
  cases n with
  | zero => rfl
  | succ n =>
    rw [List.drop_eq_getElem_cons hi, e]
    show (if c ∈ smalls then lead n (t.drop (i + 1)) + 1 else 0) = _
    rw [if_neg hc]
theorem lead_end {n i : Nat} {t : List Nat} (h : t.length ≤ i) : lead n (t.drop i) = 0 := by
  rw [List.drop_eq_nil_of_le h]
  cases n <;> rfl
/-! ### the reader as an object -/
def fR (t : List Nat) (i : Nat) (nq rq : Addr) : List (Str × V) := [("text", .str (tx t)), ("at", .int (i : Nat)), ("nested", .ref nq), ("rows", .ref rq)]
theorem fR_text {t : List Nat} {i : Nat} {nq rq : Addr} : (fR t i nq rq).lookup ("text" : Str) = some (.str (tx t)) := by unfold fR; rw [List.lookup_cons_self]
theorem fR_at {t : List Nat} {i : Nat} {nq rq : Addr} : (fR t i nq rq).lookup ("at" : Str) = some (.int (i : Nat)) := by
  unfold fR
  rw [List.lookup_cons, show (("at" : Str) == "text") = false by decide +kernel, List.lookup_cons_self]
theorem fR_nested {t : List Nat} {i : Nat} {nq rq : Addr} : (fR t i nq rq).lookup ("nested" : Str) = some (.ref nq) := by
  unfold fR
  rw [List.lookup_cons, show (("nested" : Str) == "text") = false by decide +kernel, List.lookup_cons, show (("nested" : Str) == "at") = false by decide +kernel, List.lookup_cons_self]
theorem fR_rows {t : List Nat} {i : Nat} {nq rq : Addr} : (fR t i nq rq).lookup ("rows" : Str) = some (.ref rq) := by
  unfold fR
  rw [List.lookup_cons, show (("rows" : Str) == "text") = false by decide +kernel, List.lookup_cons, show (("rows" : Str) == "at") = false by decide +kernel, List.lookup_cons, show (("rows" : Str) == "nested") = false by decide +kernel, List.lookup_cons_self]
theorem fR_no {t : List Nat} {i : Nat} {nq rq : Addr} {m : Str} (h1 : (m == ("text" : Str)) = false) (h2 : (m == ("at" : Str)) = false) (h3 : (m == ("nested" : Str)) = false) (h4 : (m == ("rows" : Str)) = false) : (fR t i nq rq).lookup m = none := by
  unfold fR
  rw [List.lookup_cons, h1, List.lookup_cons, h2, List.lookup_cons, h3, List.lookup_cons, h4]
  rfl
theorem fR_put {t : List Nat} {i j : Nat} {nq rq : Addr} : putF "at" (.int (j : Nat)) (fR t i nq rq) = fR t j nq rq := by
  unfold fR
  show (if ("text" : Str) = "at" then _ else (("text" : Str), V.str (tx t)) :: (if ("at" : Str) = "at" then _ else _)) = _
  rw [if_neg (by decide +kernel), if_pos rfl]
def NestAt (H : Hp) (xs : List V) (ns : List (List Nat × Nat)) : Prop := xs.length = ns.length ∧ ∀ (i : Nat) x p, xs[i]? = some x → ns[i]? = some p → ∃ r, x = .ref r ∧ H r = some (.tup [.str (tx p.1), .int (p.2 : Nat)])
theorem NestAt.monoT {H H' : Hp} {xs : List V} {ps : List (List Nat × Nat)} (h : NestAt H xs ps) (e : ∀ r ys, H r = some (.tup ys) → H' r = some (.tup ys)) : NestAt H' xs ps := ⟨h.1, fun i x r h1 h2 => let ⟨q, hq, ht⟩ := h.2 i x r h1 h2; ⟨q, hq, e _ _ ht⟩⟩
theorem RowsAt.monoT {H H' : Hp} {xs : List V} {ps : List Row} (h : RowsAt H xs ps) (e : ∀ r ys, H r = some (.tup ys) → H' r = some (.tup ys)) : RowsAt H' xs ps := ⟨h.1, fun i x r h1 h2 => let ⟨q, hq, ht⟩ := h.2 i x r h1 h2; ⟨q, hq, e _ _ ht⟩⟩
theorem RowsAt.snoc {H : Hp} {xs : List V} {rows : List Row} {q : Addr} {r : Row} (h : RowsAt H xs rows) (hr : H q = some (.tup r.vals)) : RowsAt H (xs ++ [.ref q]) (rows ++ [r]) := by
  refine ⟨by simp [h.1], fun i x q' h1 h2 => ?_⟩
  by_cases hi : i < xs.length
  · rw [List.getElem?_append_left hi] at h1
    rw [List.getElem?_append_left (by rw [← h.1]; exact hi)] at h2
    exact h.2 i x q' h1 h2
  · have e1 : i - xs.length = 0 := by
      rw [List.getElem?_append_right (by omega)] at h1
      have := (List.getElem?_eq_some_iff.mp h1).1
      simp at this
      omega
    rw [List.getElem?_append_right (by omega), e1] at h1
    rw [List.getElem?_append_right (by have := h.1; omega), ← h.1, e1] at h2
    simp at h1 h2
    subst h1 h2
    exact ⟨q, rfl, hr⟩
/-- a Reader stands at p, made behind the heap H0 -/
structure RdAt (a : Ad) (H0 H : Hp) (p dx nq rq : Addr) (t : List Nat) (st : RS) : Prop where
  fp : H0 p = none
  fn : H0 nq = none
  fr : H0 rq = none
  ne : nq ≠ rq
  self : H p = some (.ins a.C_Reader dx (fR t st.i nq rq))
  nest : ∃ xs, H nq = some (.lst xs) ∧ NestAt H xs st.ns
  rws : ∃ ys, H rq = some (.lst ys) ∧ RowsAt H ys st.rows
  same : Same H0 H
  len : t.length ≤ 10000
theorem RdAt.npn {a : Ad} {H0 H : Hp} {p dx nq rq : Addr} {t : List Nat} {st : RS} (h : RdAt a H0 H p dx nq rq t st) : p ≠ nq := by
  obtain ⟨xs, h1, _⟩ := h.nest
  exact ne_of h.self h1 (by intro z; cases z)
theorem RdAt.npr {a : Ad} {H0 H : Hp} {p dx nq rq : Addr} {t : List Nat} {st : RS} (h : RdAt a H0 H p dx nq rq t st) : p ≠ rq := by
  obtain ⟨xs, h1, _⟩ := h.rws
  exact ne_of h.self h1 (by intro z; cases z)
/-- the place turns -/
theorem RdAt.move {a : Ad} {H0 H : Hp} {p dx nq rq : Addr} {t : List Nat} {st : RS} (h : RdAt a H0 H p dx nq rq t st) (j : Nat) : RdAt a H0 (upd H p (.ins a.C_Reader dx (fR t j nq rq))) p dx nq rq t { st with i := j } := by
  have hT : ∀ r ys, H r = some (.tup ys) → upd H p (.ins a.C_Reader dx (fR t j nq rq)) r = some (.tup ys) := fun r ys e => upd_old (ne_of e h.self (by intro z; cases z)) e
  obtain ⟨xs, h1, h2⟩ := h.nest
  obtain ⟨ys, h3, h4⟩ := h.rws
  exact ⟨h.fp, h.fn, h.fr, h.ne, upd_same, ⟨xs, upd_old h.npn.symm h1, h2.monoT hT⟩, ⟨ys, upd_old h.npr.symm h3, h4.monoT hT⟩, same_mut h.same h.fp, h.len⟩
/-- something new beside it -/
theorem RdAt.beside {a : Ad} {H0 H H' : Hp} {p dx nq rq : Addr} {t : List Nat} {st : RS} (h : RdAt a H0 H p dx nq rq t st) (e : Same H H') : RdAt a H0 H' p dx nq rq t st := by
  obtain ⟨xs, h1, h2⟩ := h.nest
  obtain ⟨ys, h3, h4⟩ := h.rws
  exact ⟨h.fp, h.fn, h.fr, h.ne, e _ _ h.self, ⟨xs, e _ _ h1, h2.monoT fun r ys q => e _ _ q⟩, ⟨ys, e _ _ h3, h4.monoT fun r ys q => e _ _ q⟩, h.same.trans e, h.len⟩
/-- a row more -/
theorem RdAt.row {a : Ad} {H0 H : Hp} {p dx nq rq : Addr} {t : List Nat} {st : RS} {ys : List V} {q : Addr} {r : Row} (h : RdAt a H0 H p dx nq rq t st) (hy : H rq = some (.lst ys)) (hq : H q = some (.tup r.vals)) : RdAt a H0 (upd H rq (.lst (ys ++ [.ref q]))) p dx nq rq t { st with rows := st.rows ++ [r] } := by
  have hT : ∀ r zs, H r = some (.tup zs) → upd H rq (.lst (ys ++ [.ref q])) r = some (.tup zs) := fun r zs e => upd_old (ne_of e hy (by intro z; cases z)) e
  obtain ⟨xs, h1, h2⟩ := h.nest
  obtain ⟨ys', h3, h4⟩ := h.rws
  rw [hy] at h3
  cases h3
  exact ⟨h.fp, h.fn, h.fr, h.ne, upd_old h.npr h.self, ⟨xs, upd_old h.ne h1, h2.monoT hT⟩, ⟨_, upd_same, (h4.snoc hq).monoT hT⟩, same_mut h.same h.fr, h.len⟩
section
variable {P : Program} {w : World} {K : PySem.W.Frag} {mg : Str → Option Value} {base : Heap} {a : Ad} {H : Hp} {Q : VK} {p dx nq rq : Addr} {t : List Nat} {i : Nat} {D : Ends} {σ : L2.St}
theorem fldR_text (T : Txt K mg a) (e : H p = some (.ins a.C_Reader dx (fR t i nq rq))) (k : Q (.str (tx t)) H) : FldK K "text" (.ref p) H Q := rd_fldK e T.cl_Reader T.no_Reader_text fR_text k
theorem fldR_at (T : Txt K mg a) (e : H p = some (.ins a.C_Reader dx (fR t i nq rq))) (k : Q (.int (i : Nat)) H) : FldK K "at" (.ref p) H Q := rd_fldK e T.cl_Reader T.no_Reader_at fR_at k
theorem fldR_nested (T : Txt K mg a) (e : H p = some (.ins a.C_Reader dx (fR t i nq rq))) (k : Q (.ref nq) H) : FldK K "nested" (.ref p) H Q := rd_fldK e T.cl_Reader T.no_Reader_nested fR_nested k
theorem fldR_rows (T : Txt K mg a) (e : H p = some (.ins a.C_Reader dx (fR t i nq rq))) (k : Q (.ref rq) H) : FldK K "rows" (.ref p) H Q := rd_fldK e T.cl_Reader T.no_Reader_rows fR_rows k
/-- self.at += 1 -/
theorem augR_at (T : Txt K mg a) (e : H p = some (.ins a.C_Reader dx (fR t i nq rq))) {σ : L2.St} {P : Hp → Prop} (k : P (upd H p (.ins a.C_Reader dx (fR t (i + 1) nq rq)))) : AugK K "at" (tC (.int 1)) rAdd σ (.ref p) H P := by
  refine rd_augK e T.cl_Reader T.no_Reader_at fR_at ?_
  refine ⟨_, _, rfl, rfl, dx, _, e, (by show 4 < 1000; decide), ?_⟩
  have z : ((i : Nat) : Int) + 1 = ((i + 1 : Nat) : Int) := by omega
  rw [z, fR_put]
  exact k
end
local macro_rules | `(tactic| lcg_sub) => `(tactic| with_reducible first | refine fldR_at (by assumption) (by array_mem_dec) ?_ | refine fldR_text (by assumption) (by array_mem_dec) ?_ | refine fldR_nested (by assumption) (by array_mem_dec) ?_ | refine fldR_rows (by assumption) (by array_mem_dec) ?_ | refine augR_at (by assumption) (by array_mem_dec) ?_)
local macro_rules | `(tactic| lcg_off) => `(tactic| repeat (first | keq_rows | lcg_sub))
section
variable {P : Program} {w : World} {K : PySem.W.Frag} {mg : Str → Option Value} {base : Heap} {a : Ad}
def sp_Reader_here (a : Ad) : Sp := fun vs H Q _ => ∃ (H0 : Hp) (p dx nq rq : Addr) (t : List Nat) (st : RS) (c : Nat), vs = [.ref p] ∧ RdAt a H0 H p dx nq rq t st ∧ t[st.i]? = some c ∧ Q (.str (tx [c])) H
theorem ok_Reader_here (T : Txt K mg a) : FnOk P w K mg base CX0 3 a.f_Reader_here a.fd_Reader_here ["self"]  (sp_Reader_here a) := by
  refine T.F_Reader_here.ok sc_Reader_here (fun vs H Q E h => ?_) (fun cdv A outer s H vs Q E hr h => ?_)
  · obtain ⟨_, _, _, _, _, _, _, _, rfl, _⟩ := h
    rfl
  · obtain ⟨H0, p, dx, nq, rq, t, st, c, rfl, R, hc, k⟩ := h
    have hs := R.self
    have hl := R.len
    have hi := (List.getElem?_eq_some_iff.mp hc).1
    refine ⟨_, ((pss_cons (ps_if (pt_cmpR op_ge (pe_fld (pv 0) rfl) (pe_callB call_lenStr (by rfl) T.n_len (by decide +kernel) (pa_cons (pe_fld (pv 0) rfl) pa_nil)) (nomark _))
 (pss_one ps_never)
 pss_nil)
 (pss_one (ps_ret (pe_ix ix_str (pe_fld (pv 0) rfl) (pe_fld (pv 0) rfl) (fun _ _ => rfl)))))), ?_⟩
    try simp only [cxK]
    lcg_off
    refine ifD (fun c => absurd c (by omega)) (fun _ => ?_)
    lcg_off
    refine rd_ixTx (by omega) hc ?_
    exact k
def sp_Reader_skip (a : Ad) : Sp := fun vs H Q _ => ∃ (H0 : Hp) (p dx nq rq : Addr) (t : List Nat) (st st' : RS) (l : List Nat), vs = [.ref p, .str (tx l)] ∧ RdAt a H0 H p dx nq rq t st ∧ mSkip t l st = some st' ∧ ∀ H', RdAt a H0 H' p dx nq rq t st' → Q .non H'
theorem mSkip_some {t l : List Nat} {st st' : RS} (h : mSkip t l st = some st') : ∃ c, t[st.i]? = some c ∧ c ∈ l ∧ st' = { st with i := st.i + 1 } := by
  unfold mSkip at h
  split at h
  · rename_i c e
    by_cases hc : c ∈ l
    · rw [if_pos hc] at h
      exact ⟨c, e, hc, (Option.some.inj h).symm⟩
    · rw [if_neg hc] at h
      cases h
  · cases h
theorem ok_Reader_skip (T : Txt K mg a) : FnOk P w K mg base CX0 4 a.f_Reader_skip a.fd_Reader_skip ["self", "some"]  (sp_Reader_skip a) := by
  refine T.F_Reader_skip.ok sc_Reader_skip (fun vs H Q E h => ?_) (fun cdv A outer s H vs Q E hr h => ?_)
  · obtain ⟨_, _, _, _, _, _, _, _, _, rfl, _⟩ := h
    rfl
  · obtain ⟨H0, p, dx, nq, rq, t, st, st', l, rfl, R, hm, k⟩ := h
    obtain ⟨c, hc, hcl, rfl⟩ := mSkip_some hm
    have hs := R.self
    refine ⟨_, ((pss_cons (ps_if (pt_cmpR op_notInSign (pe_meth0 (pv 0) T.cl_Reader T.m_Reader_here (ok_Reader_here T) hr T.b_Reader_here .nil pass0) (pv 1) (by rfl))
 (pss_one ps_never)
 pss_nil)
 (pss_one (ps_fldaug (pv 0) pe_int in_add)))), ?_⟩
    try simp only [cxK]
    lcg_off
    refine rd_methK hs (fR_no (by decide +kernel) (by decide +kernel) (by decide +kernel) (by decide +kernel)) ?_
    refine ⟨H0, p, dx, nq, rq, t, st, c, rfl, R, hc, ?_⟩
    lcg_off
    refine ifN (fun z => absurd hcl z) (fun _ => ?_)
    lcg_off
    exact k _ (R.move _)
theorem rd_whileN {c : TT} {tb : TS} {D : Ends} {σ : L2.St} {H : Hp} (W : Nat → L2.St → Hp → Prop) (m : Nat) (w0 : W m σ H) (hs : ∀ m σ H, W m σ H → c σ H fun b H1 => if b = true then ∃ N : L2.St → Hp → Prop, (∀ σ' H', N σ' H' → ∃ m', m' < m ∧ W m' σ' H') ∧ tb { D with nx := N, ct := N, bk := D.nx } σ H1 else D.nx σ H1) : tWhile c tb D σ H := ⟨W, ⟨m, w0⟩, hs⟩
def sp_Reader_letters (a : Ad) : Sp := fun vs H Q _ => ∃ (H0 : Hp) (p dx nq rq : Addr) (t : List Nat) (st : RS) (n : Nat), vs = [.ref p, .int (n : Nat)] ∧ RdAt a H0 H p dx nq rq t st ∧ st.i ≤ t.length ∧ ∀ H', RdAt a H0 H' p dx nq rq t (mLetters t n st) → Q (.str (tx (mWord t n st))) H'
theorem ok_Reader_letters (T : Txt K mg a) : FnOk P w K mg base CX0 1 a.f_Reader_letters a.fd_Reader_letters ["self", "many"]  (sp_Reader_letters a) := by
  refine T.F_Reader_letters.ok sc_Reader_letters (fun vs H Q E h => ?_) (fun cdv A outer s H vs Q E hr h => ?_)
  · obtain ⟨_, _, _, _, _, _, _, _, rfl, _⟩ := h
    rfl
  · obtain ⟨H0, p, dx, nq, rq, t, st, n, rfl, R, hi, k⟩ := h
    have hs := R.self
    have hl := R.len
    refine ⟨_, ((pss_cons (ps_set (i := 2) sc_Reader_letters.nd rfl (Or.inl rfl) (pe_fld (pv 0) rfl))
 (pss_cons (ps_while PassesOwn.never (PW.pt (pw_and (pt_cmpR op_lt (pe_fld (pv 0) rfl) (pe_callB call_lenStr (by rfl) T.n_len (by decide +kernel) (pa_cons (pe_fld (pv 0) rfl) pa_nil)) (nomark _)) (pw_and (pt_cmpR op_lt (pe_fld (pv 0) rfl) (pe_op op_add (pv 2) (pv 1)) (nomark _)) (pw_and1 (pt_cmpR op_inSign (pe_ix ix_str (pe_fld (pv 0) rfl) (pe_fld (pv 0) rfl) (fun _ _ => rfl)) (pe_glob (v := .str "abcdefghijklmnopqrstuvwxyz") rfl T.g_SMALL ⟨_, rfl⟩) (by rfl))))))
 (pss_one (ps_fldaug (pv 0) pe_int in_add)))
 (pss_one (ps_ret (pe_slice sl_str (pe_fld (pv 0) rfl) (po_some (pv 2)) (po_some (pe_fld (pv 0) rfl)))))))), ?_⟩
    try simp only [cxK, smalls_eq]
    lcg_off
    refine rd_whileN (fun m σ H2 => ∃ j : Nat, m = t.length - (st.i + j) ∧ j ≤ n ∧ st.i + j ≤ t.length ∧ lead n (t.drop st.i) = j + lead (n - j) (t.drop (st.i + j)) ∧ RdAt a H0 H2 p dx nq rq t { st with i := st.i + j } ∧ σ = [some (.ref p), some (.int (n : Nat)), some (.int (st.i : Nat))])
      _ ⟨0, rfl, Nat.zero_le _, hi, by simp, R, rfl⟩ ?_
    rintro m σ H2 ⟨j, rfl, hj, hij, he, R2, rfl⟩
    have hs2 := R2.self
    have fin : ∀ H3, lead (n - j) (t.drop (st.i + j)) = 0 → RdAt a H0 H3 p dx nq rq t { st with i := st.i + j } → tRet (tSl rSlS (tFld K (tVar 0) (Str.ofString "text")) (tPart (tVar 2)) (tPart (tFld K (tVar 0) (Str.ofString "at")))) { nx := fun x H' => Q V.non H', rt := Q } [some (.ref p), some (.int (n : Nat)), some (.int (st.i : Nat))] H3 := by
      intro H3 h0 R3
      have hs3 := R3.self
      lcg_off
      refine rd_cutTx (by omega) (by omega) (show st.i + j ≤ t.length by omega) ?_
      have e1 : lead n (t.drop st.i) = j := by omega
      have e2 : (t.drop st.i).take (st.i + j - st.i) = mWord t n st := by
        unfold mWord
        rw [e1, Nat.add_sub_cancel_left]
      rw [e2]
      refine k H3 ?_
      unfold mLetters
      rw [e1]
      exact R3
    lcg_off
    refine ifD (fun c1 => ?_) (fun c1 => ?_)
    · lcg_off
      refine ifD (fun c2 => ?_) (fun c2 => ?_)
      · have hlt : st.i + j < t.length := by
          have c1' : ((st.i + j : Nat) : Int) < (t.length : Int) := c1
          omega
        have hc : t[st.i + j]? = some t[st.i + j] := List.getElem?_eq_getElem hlt
        lcg_off
        refine rd_ixTx (by omega) hc ?_
        lcg_off
        obtain ⟨n', hn'⟩ : ∃ n', n - j = n' + 1 := ⟨n - j - 1, by simp at c2; omega⟩
        refine ifD (fun c3 => ?_) (fun c3 => ?_)
        · refine ⟨_, fun _ _ z => z, ?_⟩
          lcg_off
          refine ⟨t.length - (st.i + j + 1), by omega, j + 1, rfl, by simp at c2; omega, by omega, ?_, R2.move _, rfl⟩
          rw [he, hn', lead_step hc c3, show n - (j + 1) = n' by omega, show st.i + (j + 1) = st.i + j + 1 by omega]
          omega
        · exact fin H2 (lead_stop hc c3) R2
      · refine iteF ?_
        have : n - j = 0 := by simp at c2; omega
        exact fin H2 (by rw [this]; rfl) R2
    · refine iteF ?_
      exact fin H2 (lead_end (by simp at c1; omega)) R2
end
end K31

namespace K31
open PySem L2 Hk
local macro_rules | `(tactic| array_mem_dec) => `(tactic| first
  | assumption | exact upd_same
  | (apply upd_new; assumption; array_mem_dec)
  | (apply upd_old; tlg_ne; array_mem_dec)
  | (apply same_at; assumption; array_mem_dec))
local macro_rules | `(tactic| tlg_ne) => `(tactic| first
  | assumption | (apply Ne.symm; assumption)
  | (apply ne_new; assumption; array_mem_dec) | (apply ne_new'; assumption; array_mem_dec)
  | (apply ne_of; assumption; assumption; (intro z; cases z; done)))
local macro_rules | `(tactic| decreasing_trivial_pre_omega) => `(tactic| first
  | assumption | (apply sqL_of; array_mem_dec) | (apply sqT_of; array_mem_dec)
  | (apply Same.seq; assumption; decreasing_trivial_pre_omega) | (apply sqT_same; assumption; decreasing_trivial_pre_omega)
  | (apply sqL_new; assumption; decreasing_trivial_pre_omega) | (apply sqL_upd; tlg_ne; decreasing_trivial_pre_omega))
local macro_rules | `(tactic| kpt_turns) => `(tactic| first
  | assumption | exact Same.refl _ | (apply same_ext; kpt_turns; assumption) | (apply same_mut; kpt_turns; keq_hits) | (apply same_step; assumption; kpt_turns))
local macro_rules | `(tactic| keq_hits) => `(tactic| first | assumption | (apply same_none; assumption; keq_hits))
local macro_rules | `(tactic| sizeOf_list_dec) => `(tactic| first | (with_reducible assumption) | (with_reducible_and_instances omega) | (with_unfolding_all decide))
local macro_rules | `(tactic| array_get_dec) => `(tactic| first | (with_reducible assumption) | (apply sz_of; (with_unfolding_all simp); done) | (apply sz_of; omega) | (apply sz_lt; (with_unfolding_all simp); done) | (apply sz_lt; omega))
local macro_rules | `(tactic| keq_rows) => `(tactic| with_reducible first
  | refine rd_asgN ?_ | refine rd_seq ?_ | refine rd_asg ?_ | refine rd_gname ?_ | refine rd_op ?_ | refine rd_var (by with_unfolding_all rfl) ?_ | refine rd_c ?_ | refine rd_I0 ?_
  | refine rd_cons ?_ | refine rd_nil ?_ | refine rd_cb ?_ | refine rd_test ?_ | refine rd_bl ?_ | refine rd_fld ?_ | refine rd_drop ?_ | refine rd_ret ?_ | refine rd_retN ?_ | refine rd_next ?_
  | refine rd_ifS ?_ | refine rd_un ?_ | refine rd_B ?_ | refine rd_and ?_ | refine rd_or ?_ | refine rd_not ?_ | refine rd_andV ?_ | refine rd_orV ?_ | refine rd_notV ?_ | refine rd_if ?_
  | refine rd_int ?_ | refine rd_abs ?_ | refine rd_max ?_ | refine rd_min ?_ | refine rd_strS ?_ | refine rd_U ?_
  | refine rd_eqTx ?_ | refine rd_neTx ?_ | refine rd_inTx ?_ | refine rd_notInTx ?_ | refine rd_fmt ?_ | refine rd_fmtT (by omega) ?_ | refine rd_jsC ?_ | refine rd_jsN ?_ | refine rd_JsK (by (try simp); omega) ?_ | refine rd_addT (by (try simp); omega) ?_ | refine rd_lenTx (by omega) ?_
  | refine rd_eq (by with_unfolding_all rfl) ?_ | refine rd_ne (by with_unfolding_all rfl) ?_ | refine rd_isNone ?_ | refine rd_notNone ?_
  | refine rd_ixL (by decreasing_trivial_pre_omega) (by with_unfolding_all rfl) ?_ | refine rd_ixT (by decreasing_trivial_pre_omega) (by with_unfolding_all rfl) ?_
  | refine rd_lenL (by decreasing_trivial_pre_omega) ?_ | refine rd_lenT (by decreasing_trivial_pre_omega) ?_
  | refine rd_mod (by sizeOf_list_dec) ?_ | refine rd_div (by sizeOf_list_dec) (by sizeOf_list_dec) ?_ | refine rd_mulR (by sizeOf_list_dec) (by sizeOf_list_dec) ?_ | refine rd_mulL (by sizeOf_list_dec) (by sizeOf_list_dec) ?_ | refine rd_pow (by sizeOf_list_dec) ?_
  | refine rd_setL (by array_mem_dec) (by with_unfolding_all rfl) ?_
  | refine rd_slL (by decreasing_trivial_pre_omega) ?_ | refine rd_inSign ?_ | refine rd_notInSign ?_ | refine rd_tup ?_ | refine rd_lst ?_ | refine rd_sl ?_ | refine rd_noPart ?_ | refine rd_part ?_ | refine rd_isInt ?_
  | refine rd_gsub ?_ | refine rd_gcons ?_ | refine rd_gnil ?_ | refine rd_call ?_ | refine rd_meth ?_ | refine rd_make ?_ | refine rd_smeth ?_ | refine rd_isC ?_ | refine rd_smethK ?_ | refine rd_cmeth ?_ | refine rd_cmethK ?_
  | refine rd_bm ?_ | refine rd_bm0 ?_ | refine rd_bmL (by array_mem_dec) ?_ | refine rd_bm0L (by array_mem_dec) ?_ | refine rd_sfld ?_ | refine rd_aug ?_ | refine rd_rAdd ?_ | refine rd_brk ?_ | refine rd_cont ?_
  | refine rd_for ?_ | refine rd_iList ?_ | refine rd_IList (by decreasing_trivial_pre_omega) ?_ | refine rd_iTup ?_ | refine rd_ITup (by decreasing_trivial_pre_omega) ?_ | refine rd_iEnum ?_ | refine rd_IEnum (by decreasing_trivial_pre_omega) ?_ | refine rd_iRng1 ?_ | refine rd_IRng1 (by sizeOf_list_dec) (by sizeOf_list_dec) ?_
  | refine rd_new (by array_get_dec) ?_ | refine rd_lenS (by array_get_dec) ?_ | refine rd_addS (by array_get_dec) ?_ | refine rd_slS (by array_get_dec) ?_ | refine rd_lc ?_ | refine rd_yes ?_ | refine rd_gtup (by decreasing_trivial_pre_omega) (by with_unfolding_all rfl) ?_ | refine rd_makeL (by with_unfolding_all rfl) ?_)
local macro_rules | `(tactic| kas_types) => `(tactic| with_reducible first | refine rd_isi_int_int ?_ | refine rd_isi_int_bool ?_ | refine rd_isi_int_str ?_ | refine rd_isi_int_list ?_ | refine rd_isi_int_tuple ?_ | refine rd_isi_bool_int ?_ | refine rd_isi_bool_bool ?_ | refine rd_isi_bool_str ?_ | refine rd_isi_bool_list ?_ | refine rd_isi_bool_tuple ?_ | refine rd_isi_str_int ?_ | refine rd_isi_str_bool ?_ | refine rd_isi_str_str ?_ | refine rd_isi_str_list ?_ | refine rd_isi_str_tuple ?_ | refine rd_isi_list_int (by array_mem_dec) ?_ | refine rd_isi_list_bool (by array_mem_dec) ?_ | refine rd_isi_list_str (by array_mem_dec) ?_ | refine rd_isi_list_list (by array_mem_dec) ?_ | refine rd_isi_list_tuple (by array_mem_dec) ?_ | refine rd_isi_tuple_int (by array_mem_dec) ?_ | refine rd_isi_tuple_bool (by array_mem_dec) ?_ | refine rd_isi_tuple_str (by array_mem_dec) ?_ | refine rd_isi_tuple_list (by array_mem_dec) ?_ | refine rd_isi_tuple_tuple (by array_mem_dec) ?_ | refine rd_isi_NoneType_int ?_ | refine rd_isi_NoneType_bool ?_ | refine rd_isi_NoneType_str ?_ | refine rd_isi_NoneType_list ?_ | refine rd_isi_NoneType_tuple ?_)
local macro_rules | `(tactic| lcg_src) => `(tactic| repeat keq_rows)

local macro_rules | `(tactic| lcg_sub) => `(tactic| with_reducible first | refine fldR_at (by assumption) (by array_mem_dec) ?_ | refine fldR_text (by assumption) (by array_mem_dec) ?_ | refine fldR_nested (by assumption) (by array_mem_dec) ?_ | refine fldR_rows (by assumption) (by array_mem_dec) ?_ | refine augR_at (by assumption) (by array_mem_dec) ?_ | refine fldE_text (by assumption) (by array_mem_dec) ?_ | refine fldE_program (by assumption) (by array_mem_dec) ?_)
local macro_rules | `(tactic| lcg_off) => `(tactic| repeat (first | keq_rows | lcg_sub))
theorem nil_tx : Str.ofString "" = tx [] := by decide +kernel
theorem open_tx : Str.ofString "(" = tx [40] := by decide +kernel
section
variable {P : Program} {w : World} {K : PySem.W.Frag} {mg : Str → Option Value} {base : Heap} {a : Ad}
theorem methR {a : Ad} {H0 H : Hp} {p dx nq rq : Addr} {t : List Nat} {st : RS} {m : Str} {sp : Sp} {E : XK} {tt : TA} {σ : L2.St} {Q : VK} (R : RdAt a H0 H p dx nq rq t st) (h1 : (m == ("text" : Str)) = false) (h2 : (m == ("at" : Str)) = false) (h3 : (m == ("nested" : Str)) = false) (h4 : (m == ("rows" : Str)) = false)
    (q : tt σ H fun vs H2 => sp (.ref p :: (vs ++ [])) H2 Q E) : MethK a.C_Reader m sp E tt σ (.ref p) H Q := rd_methK R.self (fR_no h1 h2 h3 h4) q
theorem mLetters_le {t : List Nat} {n : Nat} {st : RS} (h : st.i ≤ t.length) : (mLetters t n st).i ≤ t.length ∧ st.i ≤ (mLetters t n st).i := by
  have := (lead_le n (t.drop st.i)).1
  rw [List.length_drop] at this
  show st.i + lead n (t.drop st.i) ≤ _ ∧ _ ≤ st.i + lead n (t.drop st.i)
  omega
theorem mSkip_lt {t l : List Nat} {st st' : RS} (h : mSkip t l st = some st') : st.i < t.length ∧ st'.i = st.i + 1 := by
  obtain ⟨c, hc, _, rfl⟩ := mSkip_some h
  exact ⟨(List.getElem?_eq_some_iff.mp hc).1, rfl⟩
theorem mClass_some {t : List Nat} {st st' : RS} {n : List Nat} (h : mClass t st = some (n, st')) : ∃ st1, mSkip t capitals st = some st1 ∧ st' = mLetters t 7 st1 ∧ n = (t.drop st.i).take (st'.i - st.i) := by
  unfold mClass at h
  cases e : mSkip t capitals st with
  | none => rw [e] at h; cases h
  | some st1 =>
    rw [e] at h
    simp only [Option.map_some, Option.some.injEq, Prod.mk.injEq] at h
    exact ⟨st1, rfl, h.2.symm, by rw [← h.1, ← h.2]⟩
def sp_Reader_class_name (a : Ad) : Sp := fun vs H Q _ => ∃ (H0 : Hp) (p dx nq rq : Addr) (t : List Nat) (st st' : RS) (n : List Nat), vs = [.ref p] ∧ RdAt a H0 H p dx nq rq t st ∧ mClass t st = some (n, st') ∧ ∀ H', RdAt a H0 H' p dx nq rq t st' → Q (.str (tx n)) H'
theorem ok_Reader_class_name (T : Txt K mg a) : FnOk P w K mg base CX0 5 a.f_Reader_class_name a.fd_Reader_class_name ["self"]  (sp_Reader_class_name a) := by
  refine T.F_Reader_class_name.ok sc_Reader_class_name (fun vs H Q E h => ?_) (fun cdv A outer s H vs Q E hr h => ?_)
  · obtain ⟨_, _, _, _, _, _, _, _, _, rfl, _⟩ := h
    rfl
  · obtain ⟨H0, p, dx, nq, rq, t, st, st', n, rfl, R, hm, k⟩ := h
    obtain ⟨st1, hk1, hk2, hk3⟩ := mClass_some hm
    have hs := R.self
    have hl := R.len
    have hlt := mSkip_lt hk1
    have hle := mLetters_le (t := t) (n := 7) (st := st1) (by omega)
    refine ⟨_, ((pss_cons (ps_set (i := 1) sc_Reader_class_name.nd rfl (Or.inl rfl) (pe_fld (pv 0) rfl))
 (pss_cons (ps_expr (pe_meth (pv 0) T.cl_Reader T.m_Reader_skip (ok_Reader_skip T) hr T.b_Reader_skip .nil pass0 (pa_cons (pe_glob (v := .str "ABCDEFGHIJKLMNOPQRSTUVWXYZ") rfl T.g_CAPITAL ⟨_, rfl⟩) pa_nil)))
 (pss_cons (ps_expr (pe_meth (pv 0) T.cl_Reader T.m_Reader_letters (ok_Reader_letters T) (hr.mono (by decide)) T.b_Reader_letters .nil pass0 (pa_cons (pe_op op_sub (pe_glob (v := .int 8) rfl T.g_LONGEST ⟨_, rfl⟩) pe_int) pa_nil)))
 (pss_one (ps_ret (pe_slice sl_str (pe_fld (pv 0) rfl) (po_some (pv 1)) (po_some (pe_fld (pv 0) rfl))))))))), ?_⟩
    try simp only [cxK, capitals_eq]
    lcg_off
    refine methR R (by decide +kernel) (by decide +kernel) (by decide +kernel) (by decide +kernel) ?_
    lcg_off
    refine ⟨H0, p, dx, nq, rq, t, st, st1, capitals, rfl, R, hk1, fun H1 R1 => ?_⟩
    lcg_off
    refine methR R1 (by decide +kernel) (by decide +kernel) (by decide +kernel) (by decide +kernel) ?_
    lcg_off
    refine ⟨H0, p, dx, nq, rq, t, st1, 7, rfl, R1, by omega, fun H2 R2 => ?_⟩
    have hs2 := R2.self
    lcg_off
    rw [← hk2] at R2 hle
    refine rd_cutTx (by omega) (by omega) (show (mLetters t 7 st1).i ≤ t.length by rw [← hk2]; omega) ?_
    rw [← hk2, ← hk3]
    exact k H2 R2
theorem mRequest_some {t : List Nat} {st st' : RS} (h : mRequest t st = some st') : ∃ n st1 st2, mClass t st = some (n, st1) ∧ mSkip t [46] st1 = some st2 ∧ mWord t 8 st2 ≠ [] ∧ mWord t 8 st2 ∉ unaries ∧ st' = { mLetters t 8 st2 with rows := st2.rows ++ [.asked (mWord t 8 st2) n] } := by
  unfold mRequest at h
  cases e : mClass t st with
  | none => rw [e] at h; cases h
  | some x =>
    obtain ⟨n, st1⟩ := x
    rw [e] at h
    simp only [Option.bind_some] at h
    cases e2 : mSkip t [46] st1 with
    | none => rw [e2] at h; cases h
    | some st2 =>
      rw [e2] at h
      simp only [Option.bind_some] at h
      by_cases hc : mWord t 8 st2 = [] ∨ mWord t 8 st2 ∈ unaries
      · rw [if_pos hc] at h; cases h
      · rw [if_neg hc] at h
        exact ⟨n, st1, st2, rfl, e2, fun z => hc (.inl z), fun z => hc (.inr z), (Option.some.inj h).symm⟩
theorem unaries_eq : ([V.str "neg", V.str "pos", V.str "abs", V.str "invert"] : List V) = unaries.map fun l => V.str (tx l) := by decide +kernel
theorem inV_tx {l : List Nat} : ∀ {ls : List (List Nat)}, inV (.str (tx l)) (ls.map fun l => V.str (tx l)) = decide (l ∈ ls)
  | [] => by simp [inV]
  | m :: ls => by
    have ih := inV_tx (l := l) (ls := ls)
    unfold inV at ih ⊢
    rw [List.map_cons, List.any_cons, ih]
    have e : eqV (.str (tx m)) (.str (tx l)) = decide (m = l) := by
      show decide (tx m = tx l) = decide (m = l)
      simp only [tx_inj]
    rw [e]
    by_cases h1 : m = l
    · subst h1
      simp
    · have h2 : ¬ l = m := fun z => h1 z.symm
      simp [h1, h2]
theorem flat_tx {ls : List (List Nat)} : (ls.map fun l => V.str (tx l)).all flatV = true := by simp [flatV]
def sp_Reader_read_request (a : Ad) : Sp := fun vs H Q _ => ∃ (H0 : Hp) (p dx nq rq : Addr) (t : List Nat) (st st' : RS), vs = [.ref p] ∧ RdAt a H0 H p dx nq rq t st ∧ st.rows.length ≤ 1000 ∧ mRequest t st = some st' ∧ ∀ H', RdAt a H0 H' p dx nq rq t st' → Q .non H'
theorem ok_Reader_read_request (T : Txt K mg a) : FnOk P w K mg base CX0 6 a.f_Reader_read_request a.fd_Reader_read_request ["self"]  (sp_Reader_read_request a) := by
  refine T.F_Reader_read_request.ok sc_Reader_read_request (fun vs H Q E h => ?_) (fun cdv A outer s H vs Q E hr h => ?_)
  · obtain ⟨_, _, _, _, _, _, _, _, rfl, _⟩ := h
    rfl
  · obtain ⟨H0, p, dx, nq, rq, t, st, st', rfl, R, hrl, hm, k⟩ := h
    obtain ⟨n, st1, st2, h1, h2, h3, h4, rfl⟩ := mRequest_some hm
    have hs := R.self
    have hl := R.len
    have hlt := mSkip_lt h2
    have hqU := T.q_UNARY_SIGNS
    rw [unaries_eq] at hqU
    refine ⟨_, ((pss_cons (ps_set (i := 1) sc_Reader_read_request.nd rfl (Or.inl rfl) (pe_meth0 (pv 0) T.cl_Reader T.m_Reader_class_name (ok_Reader_class_name T) hr T.b_Reader_class_name .nil pass0))
 (pss_cons (ps_expr (pe_meth (pv 0) T.cl_Reader T.m_Reader_skip (ok_Reader_skip T) (hr.mono (by decide)) T.b_Reader_skip .nil pass0 (pa_cons pe_str pa_nil)))
 (pss_cons (ps_set (i := 2) sc_Reader_read_request.nd rfl (Or.inl rfl) (pe_meth (pv 0) T.cl_Reader T.m_Reader_letters (ok_Reader_letters T) (hr.mono (by decide)) T.b_Reader_letters .nil pass0 (pa_cons (pe_glob (v := .int 8) rfl T.g_LONGEST ⟨_, rfl⟩) pa_nil)))
 (pss_cons (ps_if (PW.pt (pw_or (pt_cmpR op_eq (pv 2) pe_str (nomark _)) (pw_or1 (pt_cmpR op_in_seq (pv 2) (pe_glob (v := .ref _) rfl T.g_UNARY_SIGNS rfl) (by rfl)))))
 (pss_one ps_never)
 pss_nil)
 (pss_one (ps_expr (pe_bm PySem.F.plainAttrs_list PySem.F.slot_list_append PySem.F.type_list_append mt_append (pe_fld (pv 0) rfl) (pa_cons (pe_tup (pa_cons (pe_glob (v := .str "asked") rfl T.g_ASKED ⟨_, rfl⟩) (pa_cons (pv 2) (pa_cons (pv 1) pa_nil)))) pa_nil))))))))), ?_⟩
    try simp only [cxK, dot_tx, nil_tx]
    lcg_off
    refine methR R (by decide +kernel) (by decide +kernel) (by decide +kernel) (by decide +kernel) ?_
    lcg_off
    refine ⟨H0, p, dx, nq, rq, t, st, st1, n, rfl, R, h1, fun H1 R1 => ?_⟩
    lcg_off
    refine methR R1 (by decide +kernel) (by decide +kernel) (by decide +kernel) (by decide +kernel) ?_
    lcg_off
    refine ⟨H0, p, dx, nq, rq, t, st1, st2, [46], rfl, R1, h2, fun H2 R2 => ?_⟩
    lcg_off
    refine methR R2 (by decide +kernel) (by decide +kernel) (by decide +kernel) (by decide +kernel) ?_
    lcg_off
    refine ⟨H0, p, dx, nq, rq, t, st2, 8, rfl, R2, by omega, fun H3 R3 => ?_⟩
    have hs3 := R3.self
    lcg_off
    refine ifD (fun c => absurd c h3) (fun _ => ?_)
    lcg_off
    refine rd_inSeqT (hqU _) rfl flat_tx ?_
    rw [inV_tx]
    lcg_off
    show if (if false = true then !decide (mWord t 8 st2 ∈ unaries) else decide (mWord t 8 st2 ∈ unaries)) = true then _ else _
    rw [if_neg Bool.false_ne_true]
    refine ifD (fun c => absurd c h4) (fun _ => ?_)
    obtain ⟨ys, hy, hR⟩ := R3.rws
    have hyl : ys.length = st2.rows.length := hR.1
    have e12 : st2.rows = st.rows := by
      obtain ⟨c, _, _, rfl⟩ := mSkip_some h2
      obtain ⟨st0, hk1, rfl, _⟩ := mClass_some h1
      obtain ⟨c, _, _, rfl⟩ := mSkip_some hk1
      rfl
    lcg_off
    intro T0 hT
    lcg_off
    refine rd_append (upd_new hT hy) (sz_lt (by rw [hyl, e12]; omega)) ?_
    exact k _ ((R3.beside (same_new hT)).row (r := .asked (mWord t 8 st2) n) (upd_new hT hy) upd_same)
/-- what opens: a request or a leaf -/
def mOpen (t : List Nat) (st : RS) : Option RS := match t[st.i]? with
  | none => none
  | some c => if c = 40 then none else if c ∈ capitals then mRequest t st else if mWord t 8 st = [] then none else
    (mSkip t [58] (mLetters t 8 st)).bind fun st2 => (mClass t st2).map fun (n, st3) => { st3 with rows := st3.rows ++ [.leaf (mWord t 8 st) n] }
def sp_Reader_is_opened (a : Ad) : Sp := fun vs H Q _ => ∃ (H0 : Hp) (p dx nq rq : Addr) (t : List Nat) (st st' : RS), vs = [.ref p] ∧ RdAt a H0 H p dx nq rq t st ∧ st.rows.length ≤ 1000 ∧ mOpen t st = some st' ∧ ∀ H', RdAt a H0 H' p dx nq rq t st' → Q (.bl false) H'
theorem ok_Reader_is_opened (T : Txt K mg a) : FnOk P w K mg base CX0 7 a.f_Reader_is_opened a.fd_Reader_is_opened ["self"]  (sp_Reader_is_opened a) := by
  refine T.F_Reader_is_opened.ok sc_Reader_is_opened (fun vs H Q E h => ?_) (fun cdv A outer s H vs Q E hr h => ?_)
  · obtain ⟨_, _, _, _, _, _, _, _, rfl, _⟩ := h
    rfl
  · obtain ⟨H0, p, dx, nq, rq, t, st, st', rfl, R, hrl, hm, k⟩ := h
    have hs := R.self
    have hl := R.len
    have hqU := T.q_UNARY_SIGNS
    rw [unaries_eq] at hqU
    refine ⟨_, ((pss_cons (ps_set (i := 1) sc_Reader_is_opened.nd rfl (Or.inl rfl) (pe_meth0 (pv 0) T.cl_Reader T.m_Reader_here (ok_Reader_here T) (hr.mono (by decide)) T.b_Reader_here .nil pass0))
 (pss_cons (ps_if (pt_cmpR op_eq (pv 1) pe_str (nomark _))
 (pss_cons ps_never
 (pss_one (ps_ret pe_bl)))
 pss_nil)
 (pss_cons (ps_if (pt_cmpR op_inSign (pv 1) (pe_glob (v := .str "ABCDEFGHIJKLMNOPQRSTUVWXYZ") rfl T.g_CAPITAL ⟨_, rfl⟩) (by rfl))
 (pss_cons (ps_expr (pe_meth0 (pv 0) T.cl_Reader T.m_Reader_read_request (ok_Reader_read_request T) hr T.b_Reader_read_request .nil pass0))
 (pss_one (ps_ret pe_bl)))
 pss_nil)
 (pss_cons (ps_set (i := 2) sc_Reader_is_opened.nd rfl (Or.inl rfl) (pe_meth (pv 0) T.cl_Reader T.m_Reader_letters (ok_Reader_letters T) (hr.mono (by decide)) T.b_Reader_letters .nil pass0 (pa_cons (pe_glob (v := .int 8) rfl T.g_LONGEST ⟨_, rfl⟩) pa_nil)))
 (pss_cons (ps_if (pt_cmpR op_eq (pv 2) pe_str (nomark _))
 (pss_one ps_never)
 pss_nil)
 (Evl.pss_cut (ps_if (PW.pt (pw_and (pt_cmpR op_in_seq (pv 2) (pe_glob (v := .ref _) rfl T.g_UNARY_SIGNS rfl) (by rfl)) (pw_and1 (pt_cmpR op_eq (pe_meth0 (pv 0) T.cl_Reader T.m_Reader_here (ok_Reader_here T) (hr.mono (by decide)) T.b_Reader_here .nil pass0) pe_str (nomark _)))))
 (pss_cons ps_never
 (pss_one (ps_ret pe_bl)))
 pss_nil)
 (pss_cons (ps_expr (pe_meth (pv 0) T.cl_Reader T.m_Reader_skip (ok_Reader_skip T) (hr.mono (by decide)) T.b_Reader_skip .nil pass0 (pa_cons pe_str pa_nil)))
 (pss_cons (ps_expr (pe_bm PySem.F.plainAttrs_list PySem.F.slot_list_append PySem.F.type_list_append mt_append (pe_fld (pv 0) rfl) (pa_cons (pe_tup (pa_cons (pe_glob (v := .str "leaf") rfl T.g_LEAF ⟨_, rfl⟩) (pa_cons (pv 2) (pa_cons (pe_meth0 (pv 0) T.cl_Reader T.m_Reader_class_name (ok_Reader_class_name T) (hr.mono (by decide)) T.b_Reader_class_name .nil pass0) pa_nil)))) pa_nil)))
 (pss_one (ps_ret pe_bl))))))))))), ?_⟩
    try simp only [cxK, colon_tx, nil_tx, open_tx, capitals_eq]
    unfold mOpen at hm
    cases hc : t[st.i]? with
    | none => rw [hc] at hm; cases hm
    | some c =>
      rw [hc] at hm
      have hi := (List.getElem?_eq_some_iff.mp hc).1
      simp only at hm
      by_cases c1 : c = 40
      · rw [if_pos c1] at hm; cases hm
      rw [if_neg c1] at hm
      lcg_off
      refine methR R (by decide +kernel) (by decide +kernel) (by decide +kernel) (by decide +kernel) ?_
      lcg_off
      refine ⟨H0, p, dx, nq, rq, t, st, c, rfl, R, hc, ?_⟩
      lcg_off
      refine ifD (fun z => absurd (by simpa using z) c1) (fun _ => ?_)
      lcg_off
      refine ifD (fun c2 => ?_) (fun c2 => ?_)
      · rw [if_pos c2] at hm
        lcg_off
        refine methR R (by decide +kernel) (by decide +kernel) (by decide +kernel) (by decide +kernel) ?_
        lcg_off
        refine ⟨H0, p, dx, nq, rq, t, st, st', rfl, R, hrl, hm, fun H1 R1 => ?_⟩
        lcg_off
        exact k H1 R1
      · rw [if_neg c2] at hm
        by_cases c3 : mWord t 8 st = []
        · rw [if_pos c3] at hm; cases hm
        rw [if_neg c3] at hm
        cases e2 : mSkip t [58] (mLetters t 8 st) with
        | none => rw [e2] at hm; cases hm
        | some st2 =>
          rw [e2] at hm
          simp only [Option.bind_some] at hm
          cases e3 : mClass t st2 with
          | none => rw [e3] at hm; cases hm
          | some x =>
            obtain ⟨n, st3⟩ := x
            rw [e3] at hm
            simp only [Option.map_some, Option.some.injEq] at hm
            obtain ⟨c', hc', hc2', est⟩ := mSkip_some e2
            have hc58 : c' = 58 := by simpa using hc2'
            subst hc58
            have er : st3.rows = st.rows := by
              obtain ⟨st0, hk1, rfl, _⟩ := mClass_some e3
              obtain ⟨c, _, _, rfl⟩ := mSkip_some hk1
              rw [est]
              rfl
            lcg_off
            refine methR R (by decide +kernel) (by decide +kernel) (by decide +kernel) (by decide +kernel) ?_
            lcg_off
            refine ⟨H0, p, dx, nq, rq, t, st, 8, rfl, R, by omega, fun H1 R1 => ?_⟩
            lcg_off
            refine ifD (fun z => absurd z c3) (fun _ => ?_)
            lcg_off
            refine rd_cut (fun σ' H' => H' = H1 ∧ σ' = [some (.ref p), some (.str (tx [c])), some (.str (tx (mWord t 8 st)))]) ?_ ?_
            · lcg_off
              refine rd_inSeqT (hqU _) rfl flat_tx ?_
              rw [inV_tx]
              lcg_off
              show if (if false = true then !decide (mWord t 8 st ∈ unaries) else decide (mWord t 8 st ∈ unaries)) = true then _ else _
              rw [if_neg Bool.false_ne_true]
              refine ifD (fun c5 => ?_) (fun c5 => ?_)
              · lcg_off
                refine methR R1 (by decide +kernel) (by decide +kernel) (by decide +kernel) (by decide +kernel) ?_
                lcg_off
                refine ⟨H0, p, dx, nq, rq, t, _, 58, rfl, R1, hc', ?_⟩
                lcg_off
                refine ifD (fun z => absurd z (by decide)) (fun _ => ?_)
                lcg_off
                exact ⟨rfl, rfl⟩
              · refine iteF ?_
                lcg_off
                exact ⟨rfl, rfl⟩
            · rintro σ' H' ⟨rfl, rfl⟩
              lcg_off
              refine methR R1 (by decide +kernel) (by decide +kernel) (by decide +kernel) (by decide +kernel) ?_
              lcg_off
              refine ⟨H0, p, dx, nq, rq, t, _, st2, [58], rfl, R1, e2, fun H2 R2 => ?_⟩
              have hs2 := R2.self
              obtain ⟨ys, hy, hR⟩ := R2.rws
              lcg_off
              refine methR R2 (by decide +kernel) (by decide +kernel) (by decide +kernel) (by decide +kernel) ?_
              lcg_off
              refine ⟨H0, p, dx, nq, rq, t, _, st3, n, rfl, R2, e3, fun H3 R3 => ?_⟩
              obtain ⟨ys3, hy3, hR3⟩ := R3.rws
              have hyl : ys3.length = st3.rows.length := hR3.1
              lcg_off
              intro T0 hT
              lcg_off
              refine rd_append (upd_new hT hy3) (sz_lt (by rw [hyl, er]; omega)) ?_
              lcg_off
              rw [← hm] at k
              exact k _ ((R3.beside (same_new hT)).row (r := .leaf (mWord t 8 st) n) (upd_new hT hy3) upd_same)
def sp_Reader_close (a : Ad) : Sp := fun vs H Q _ => ∃ (H0 : Hp) (p dx nq rq : Addr) (t : List Nat) (st : RS), vs = [.ref p] ∧ RdAt a H0 H p dx nq rq t st ∧ st.ns = [] ∧ ∀ H', RdAt a H0 H' p dx nq rq t st → Q .non H'
theorem nest_nil {H : Hp} {xs : List V} (h : NestAt H xs []) : xs = [] := List.eq_nil_of_length_eq_zero h.1
theorem ok_Reader_close (T : Txt K mg a) : FnOk P w K mg base CX0 5 a.f_Reader_close a.fd_Reader_close ["self"]  (sp_Reader_close a) := by
  refine T.F_Reader_close.ok sc_Reader_close (fun vs H Q E h => ?_) (fun cdv A outer s H vs Q E hr h => ?_)
  · obtain ⟨_, _, _, _, _, _, _, rfl, _⟩ := h
    rfl
  · obtain ⟨H0, p, dx, nq, rq, t, st, rfl, R, hn, k⟩ := h
    have hs := R.self
    obtain ⟨xs, hx, hN⟩ := R.nest
    rw [hn] at hN
    cases nest_nil hN
    refine ⟨_, ((pss_one (ps_while PassesOwn.never (PW.pt (pw_and (pt_cmpR (op_neD hr.units) (pe_fld (pv 0) rfl) (pe_lst pa_nil) (nomark _)) (pw_and1 (pt_cmpR op_ne (pe_ix ix_tup (pe_ix ix_list (pe_fld (pv 0) rfl) (pe_un un_neg pe_int) (fun _ _ => rfl)) pe_int (fun _ _ => rfl)) pe_str (nomark _)))))
 (pss_cons (ps_expr (pe_meth (pv 0) T.cl_Reader T.m_Reader_skip (ok_Reader_skip T) hr T.b_Reader_skip .nil pass0 (pa_cons pe_str pa_nil)))
 (pss_cons (ps_asg (pe_bm0 PySem.F.plainAttrs_list PySem.F.slot_list_pop PySem.F.type_list_pop mt_pop (pe_fld (pv 0) rfl)) (pg_tup rfl (pgs_cons (pg_name (i := 1) sc_Reader_close.nd rfl (Or.inl rfl)) (pgs_cons (pg_name (i := 2) sc_Reader_close.nd rfl (Or.inl rfl)) pgs_nil))))
 (pss_one (ps_expr (pe_bm PySem.F.plainAttrs_list PySem.F.slot_list_append PySem.F.type_list_append mt_append (pe_fld (pv 0) rfl) (pa_cons (pe_tup (pa_cons (pe_glob (v := .str "done") rfl T.g_DONE ⟨_, rfl⟩) (pa_cons (pv 1) (pa_cons (pv 2) pa_nil)))) pa_nil))))))))), ?_⟩
    try simp only [cxK, nil_tx]
    lcg_off
    refine rd_whileN (fun m σ H2 => H2 = H ∧ σ = [some (.ref p), none, none]) 0 ⟨rfl, rfl⟩ ?_
    rintro m σ H2 ⟨rfl, rfl⟩
    lcg_off
    intro l hl
    lcg_off
    refine rd_neD (d := .list []) (e := .list []) (.lst (sqL_of (upd_new hl hx)) .nil) (.lst (sqL_of upd_same) .nil) (by decide +kernel) (by decide +kernel) ?_
    lcg_off
    refine ifF (by decide +kernel) ?_
    refine iteF ?_
    exact k _ (R.beside (same_new hl))
def sp_Reader_init (a : Ad) : Sp := fun vs H Q _ => ∃ (H0 : Hp) (p dx : Addr) (t : List Nat), vs = [.ref p, .str (tx t)] ∧ H p = some (.ins a.C_Reader dx []) ∧ H0 p = none ∧ Same H0 H ∧ t.length ≤ 10000 ∧ ∀ nq rq H', RdAt a H0 H' p dx nq rq t ⟨0, [], []⟩ → Q .non H'
theorem fR_put1 {v : V} : putF "text" v [] = [(("text" : Str), v)] := rfl
theorem fR_put2 {v u : V} : putF "at" u [(("text" : Str), v)] = [(("text" : Str), v), ("at", u)] := by
  show (if ("text" : Str) = "at" then _ else (("text" : Str), v) :: putF "at" u []) = _
  rw [if_neg (by decide +kernel)]
  rfl
theorem fR_put3 {v u y : V} : putF "nested" y [(("text" : Str), v), ("at", u)] = [(("text" : Str), v), ("at", u), ("nested", y)] := by
  show (if ("text" : Str) = "nested" then _ else (("text" : Str), v) :: (if ("at" : Str) = "nested" then _ else (("at" : Str), u) :: putF "nested" y [])) = _
  rw [if_neg (by decide +kernel), if_neg (by decide +kernel)]
  rfl
theorem fR_put4 {v u y z : V} : putF "rows" z [(("text" : Str), v), ("at", u), ("nested", y)] = [(("text" : Str), v), ("at", u), ("nested", y), ("rows", z)] := by
  show (if ("text" : Str) = "rows" then _ else (("text" : Str), v) :: (if ("at" : Str) = "rows" then _ else (("at" : Str), u) :: (if ("nested" : Str) = "rows" then _ else (("nested" : Str), y) :: putF "rows" z []))) = _
  rw [if_neg (by decide +kernel), if_neg (by decide +kernel), if_neg (by decide +kernel)]
  rfl
theorem ok_Reader_init (T : Txt K mg a) : FnOk P w K mg base CX0 1 a.f_Reader_init a.fd_Reader_init ["self", "text"]  (sp_Reader_init a) := by
  refine T.F_Reader_init.ok sc_Reader_init (fun vs H Q E h => ?_) (fun cdv A outer s H vs Q E hr h => ?_)
  · obtain ⟨_, _, _, _, rfl, _⟩ := h
    rfl
  · obtain ⟨H0, p, dx, t, rfl, hp, hp0, hs, hl, k⟩ := h
    refine ⟨_, ((pss_cons (ps_fld (pv 0) (pv 1) rfl)
 (pss_cons (ps_fld (pv 0) pe_int rfl)
 (pss_cons (ps_fld (pv 0) (pe_lst pa_nil) rfl)
 (pss_one (ps_fld (pv 0) (pe_lst pa_nil) rfl)))))), ?_⟩
    try simp only [cxK]
    lcg_off
    refine rd_sfldK hp T.cl_Reader T.no_Reader_text (by show 0 < 1000; decide) ?_
    rw [fR_put1]
    lcg_off
    refine rd_sfldK upd_same T.cl_Reader T.no_Reader_at (by show 1 < 1000; decide) ?_
    rw [fR_put2, upd_upd]
    lcg_off
    intro nq hnq
    have n1 : p ≠ nq := ne_of_none upd_same hnq
    have hnq0 : H nq = none := by
      rw [upd_ne n1.symm] at hnq
      exact hnq
    lcg_off
    refine rd_sfldK (upd_old n1 upd_same) T.cl_Reader T.no_Reader_nested (by show 2 < 1000; decide) ?_
    rw [fR_put3]
    lcg_off
    intro rq hrq
    have n2 : p ≠ rq := ne_of_none upd_same hrq
    have n3 : nq ≠ rq := ne_of_none (upd_old n1.symm upd_same) hrq
    have hrq0 : H rq = none := by
      rw [upd_ne n2.symm, upd_ne n3.symm, upd_ne n2.symm] at hrq
      exact hrq
    lcg_off
    refine rd_sfldK (upd_old n2 upd_same) T.cl_Reader T.no_Reader_rows (by show 3 < 1000; decide) ?_
    rw [fR_put4]
    refine k nq rq _ ⟨hp0, hs.free hnq0, hs.free hrq0, n3, upd_same, ⟨[], upd_old n1.symm (upd_old n3 (upd_old n1.symm upd_same)), rfl, fun i x p h _ => by simp at h⟩, ⟨[], upd_old n2.symm upd_same, rfl, fun i x p h _ => by simp at h⟩, ?_, hl⟩
    exact same_mut (same_mut (same_mut (same_mut (same_mut hs hp0) (hs.free hnq0)) hp0) (hs.free hrq0)) hp0
/-- a text that is read in one go -/
def sp_Reader_whole (a : Ad) : Sp := fun vs H Q _ => ∃ (H0 : Hp) (p dx nq rq : Addr) (t : List Nat) (st st' : RS), vs = [.ref p] ∧ RdAt a H0 H p dx nq rq t st ∧ st.rows.length ≤ 1000 ∧ mOpen t st = some st' ∧ st'.ns = [] ∧ st'.i = t.length ∧
  ∀ H' ys, Same H0 H' → H0 rq = none → H' rq = some (.lst ys) → RowsAt H' ys st'.rows → Q (.ref rq) H'
theorem ok_Reader_whole (T : Txt K mg a) : FnOk P w K mg base CX0 8 a.f_Reader_whole a.fd_Reader_whole ["self"]  (sp_Reader_whole a) := by
  refine T.F_Reader_whole.ok sc_Reader_whole (fun vs H Q E h => ?_) (fun cdv A outer s H vs Q E hr h => ?_)
  · obtain ⟨_, _, _, _, _, _, _, _, rfl, _⟩ := h
    rfl
  · obtain ⟨H0, p, dx, nq, rq, t, st, st', rfl, R, hrl, hm, hns, hend, k⟩ := h
    have hs := R.self
    have hl := R.len
    refine ⟨_, ((pss_cons (ps_while PassesOwn.never (pt_val pe_bl)
 (pss_cons (ps_while PassesOwn.never (pt_val (pe_meth0 (pv 0) T.cl_Reader T.m_Reader_is_opened (ok_Reader_is_opened T) hr T.b_Reader_is_opened .nil pass0))
 (pss_one ps_pass))
 (pss_cons (ps_expr (pe_meth0 (pv 0) T.cl_Reader T.m_Reader_close (ok_Reader_close T) (hr.mono (by decide)) T.b_Reader_close .nil pass0))
 (pss_cons (ps_if (pt_cmpR (op_eqD hr.units) (pe_fld (pv 0) rfl) (pe_lst pa_nil) (nomark _))
 (pss_one ps_break)
 pss_nil)
 (pss_one ps_never)))))
 (pss_cons (ps_if (pt_cmpR op_lt (pe_fld (pv 0) rfl) (pe_callB call_lenStr (by rfl) T.n_len (by decide +kernel) (pa_cons (pe_fld (pv 0) rfl) pa_nil)) (nomark _))
 (pss_one ps_never)
 pss_nil)
 (pss_one (ps_ret (pe_fld (pv 0) rfl)))))), ?_⟩
    try simp only [cxK]
    lcg_off
    refine rd_whileN (fun m σ H2 => H2 = H ∧ σ = [some (.ref p)]) 0 ⟨rfl, rfl⟩ ?_
    rintro m σ H2 ⟨rfl, rfl⟩
    lcg_off
    refine iteT ?_
    refine ⟨fun _ _ => False, fun _ _ z => z.elim, ?_⟩
    lcg_off
    refine rd_whileN (fun m σ H3 => H3 = H2 ∧ σ = [some (.ref p)]) 0 ⟨rfl, rfl⟩ ?_
    rintro m σ H3 ⟨rfl, rfl⟩
    lcg_off
    refine methR R (by decide +kernel) (by decide +kernel) (by decide +kernel) (by decide +kernel) ?_
    lcg_off
    refine ⟨H0, p, dx, nq, rq, t, st, st', rfl, R, hrl, hm, fun H1 R1 => ?_⟩
    lcg_off
    refine iteF ?_
    lcg_off
    refine methR R1 (by decide +kernel) (by decide +kernel) (by decide +kernel) (by decide +kernel) ?_
    lcg_off
    refine ⟨H0, p, dx, nq, rq, t, st', rfl, R1, hns, fun H2 R2 => ?_⟩
    have hs2 := R2.self
    obtain ⟨xs, hx, hN⟩ := R2.nest
    rw [hns] at hN
    cases nest_nil hN
    lcg_off
    intro l hl'
    lcg_off
    refine rd_eqD (d := .list []) (e := .list []) (.lst (sqL_of (upd_new hl' hx)) .nil) (.lst (sqL_of upd_same) .nil) (by decide +kernel) (by decide +kernel) ?_
    have R3 := R2.beside (same_new (u := .lst []) hl')
    have hs3 := R3.self
    obtain ⟨ys, hy, hR⟩ := R3.rws
    lcg_off
    refine ifT (by decide +kernel) ?_
    lcg_off
    refine ifD (fun z => absurd z (by rw [hend]; omega)) (fun _ => ?_)
    lcg_off
    exact k _ ys R3.same R3.fr hy hR
end
end K31

namespace K31
open PySem L2 Hk
local macro_rules | `(tactic| array_mem_dec) => `(tactic| first
  | assumption | exact upd_same
  | (apply upd_new; assumption; array_mem_dec)
  | (apply upd_old; tlg_ne; array_mem_dec)
  | (apply same_at; assumption; array_mem_dec))
local macro_rules | `(tactic| tlg_ne) => `(tactic| first
  | assumption | (apply Ne.symm; assumption)
  | (apply ne_new; assumption; array_mem_dec) | (apply ne_new'; assumption; array_mem_dec)
  | (apply ne_of; assumption; assumption; (intro z; cases z; done)))
local macro_rules | `(tactic| decreasing_trivial_pre_omega) => `(tactic| first
  | assumption | (apply sqL_of; array_mem_dec) | (apply sqT_of; array_mem_dec)
  | (apply Same.seq; assumption; decreasing_trivial_pre_omega) | (apply sqT_same; assumption; decreasing_trivial_pre_omega)
  | (apply sqL_new; assumption; decreasing_trivial_pre_omega) | (apply sqL_upd; tlg_ne; decreasing_trivial_pre_omega))
local macro_rules | `(tactic| kpt_turns) => `(tactic| first
  | assumption | exact Same.refl _ | (apply same_ext; kpt_turns; assumption) | (apply same_mut; kpt_turns; keq_hits) | (apply same_step; assumption; kpt_turns))
local macro_rules | `(tactic| keq_hits) => `(tactic| first | assumption | (apply same_none; assumption; keq_hits))
local macro_rules | `(tactic| sizeOf_list_dec) => `(tactic| first | (with_reducible assumption) | (with_reducible_and_instances omega) | (with_unfolding_all decide))
local macro_rules | `(tactic| array_get_dec) => `(tactic| first | (with_reducible assumption) | (apply sz_of; (with_unfolding_all simp); done) | (apply sz_of; omega) | (apply sz_lt; (with_unfolding_all simp); done) | (apply sz_lt; omega))
local macro_rules | `(tactic| keq_rows) => `(tactic| with_reducible first
  | refine rd_asgN ?_ | refine rd_seq ?_ | refine rd_asg ?_ | refine rd_gname ?_ | refine rd_op ?_ | refine rd_var (by with_unfolding_all rfl) ?_ | refine rd_c ?_ | refine rd_I0 ?_
  | refine rd_cons ?_ | refine rd_nil ?_ | refine rd_cb ?_ | refine rd_test ?_ | refine rd_bl ?_ | refine rd_fld ?_ | refine rd_drop ?_ | refine rd_ret ?_ | refine rd_retN ?_ | refine rd_next ?_
  | refine rd_ifS ?_ | refine rd_un ?_ | refine rd_B ?_ | refine rd_and ?_ | refine rd_or ?_ | refine rd_not ?_ | refine rd_andV ?_ | refine rd_orV ?_ | refine rd_notV ?_ | refine rd_if ?_
  | refine rd_int ?_ | refine rd_abs ?_ | refine rd_max ?_ | refine rd_min ?_ | refine rd_strS ?_ | refine rd_U ?_
  | refine rd_eqTx ?_ | refine rd_neTx ?_ | refine rd_inTx ?_ | refine rd_notInTx ?_ | refine rd_fmt ?_ | refine rd_fmtT (by omega) ?_ | refine rd_jsC ?_ | refine rd_jsN ?_ | refine rd_JsK (by (try simp); omega) ?_ | refine rd_addT (by (try simp); omega) ?_ | refine rd_lenTx (by omega) ?_
  | refine rd_eq (by with_unfolding_all rfl) ?_ | refine rd_ne (by with_unfolding_all rfl) ?_ | refine rd_isNone ?_ | refine rd_notNone ?_
  | refine rd_ixL (by decreasing_trivial_pre_omega) (by with_unfolding_all rfl) ?_ | refine rd_ixT (by decreasing_trivial_pre_omega) (by with_unfolding_all rfl) ?_
  | refine rd_lenL (by decreasing_trivial_pre_omega) ?_ | refine rd_lenT (by decreasing_trivial_pre_omega) ?_
  | refine rd_mod (by sizeOf_list_dec) ?_ | refine rd_div (by sizeOf_list_dec) (by sizeOf_list_dec) ?_ | refine rd_mulR (by sizeOf_list_dec) (by sizeOf_list_dec) ?_ | refine rd_mulL (by sizeOf_list_dec) (by sizeOf_list_dec) ?_ | refine rd_pow (by sizeOf_list_dec) ?_
  | refine rd_setL (by array_mem_dec) (by with_unfolding_all rfl) ?_
  | refine rd_slL (by decreasing_trivial_pre_omega) ?_ | refine rd_inSign ?_ | refine rd_notInSign ?_ | refine rd_tup ?_ | refine rd_lst ?_ | refine rd_sl ?_ | refine rd_noPart ?_ | refine rd_part ?_ | refine rd_isInt ?_
  | refine rd_gsub ?_ | refine rd_gcons ?_ | refine rd_gnil ?_ | refine rd_call ?_ | refine rd_meth ?_ | refine rd_make ?_ | refine rd_smeth ?_ | refine rd_isC ?_ | refine rd_smethK ?_ | refine rd_cmeth ?_ | refine rd_cmethK ?_
  | refine rd_bm ?_ | refine rd_bm0 ?_ | refine rd_bmL (by array_mem_dec) ?_ | refine rd_bm0L (by array_mem_dec) ?_ | refine rd_sfld ?_ | refine rd_aug ?_ | refine rd_rAdd ?_ | refine rd_brk ?_ | refine rd_cont ?_
  | refine rd_for ?_ | refine rd_iList ?_ | refine rd_IList (by decreasing_trivial_pre_omega) ?_ | refine rd_iTup ?_ | refine rd_ITup (by decreasing_trivial_pre_omega) ?_ | refine rd_iEnum ?_ | refine rd_IEnum (by decreasing_trivial_pre_omega) ?_ | refine rd_iRng1 ?_ | refine rd_IRng1 (by sizeOf_list_dec) (by sizeOf_list_dec) ?_
  | refine rd_new (by array_get_dec) ?_ | refine rd_lenS (by array_get_dec) ?_ | refine rd_addS (by array_get_dec) ?_ | refine rd_slS (by array_get_dec) ?_ | refine rd_lc ?_ | refine rd_yes ?_ | refine rd_gtup (by decreasing_trivial_pre_omega) (by with_unfolding_all rfl) ?_ | refine rd_makeL (by with_unfolding_all rfl) ?_)
local macro_rules | `(tactic| kas_types) => `(tactic| with_reducible first | refine rd_isi_int_int ?_ | refine rd_isi_int_bool ?_ | refine rd_isi_int_str ?_ | refine rd_isi_int_list ?_ | refine rd_isi_int_tuple ?_ | refine rd_isi_bool_int ?_ | refine rd_isi_bool_bool ?_ | refine rd_isi_bool_str ?_ | refine rd_isi_bool_list ?_ | refine rd_isi_bool_tuple ?_ | refine rd_isi_str_int ?_ | refine rd_isi_str_bool ?_ | refine rd_isi_str_str ?_ | refine rd_isi_str_list ?_ | refine rd_isi_str_tuple ?_ | refine rd_isi_list_int (by array_mem_dec) ?_ | refine rd_isi_list_bool (by array_mem_dec) ?_ | refine rd_isi_list_str (by array_mem_dec) ?_ | refine rd_isi_list_list (by array_mem_dec) ?_ | refine rd_isi_list_tuple (by array_mem_dec) ?_ | refine rd_isi_tuple_int (by array_mem_dec) ?_ | refine rd_isi_tuple_bool (by array_mem_dec) ?_ | refine rd_isi_tuple_str (by array_mem_dec) ?_ | refine rd_isi_tuple_list (by array_mem_dec) ?_ | refine rd_isi_tuple_tuple (by array_mem_dec) ?_ | refine rd_isi_NoneType_int ?_ | refine rd_isi_NoneType_bool ?_ | refine rd_isi_NoneType_str ?_ | refine rd_isi_NoneType_list ?_ | refine rd_isi_NoneType_tuple ?_)
local macro_rules | `(tactic| lcg_src) => `(tactic| repeat keq_rows)

local macro_rules | `(tactic| lcg_off) => `(tactic| repeat keq_rows)
section
variable {P : Program} {w : World} {K : PySem.W.Frag} {mg : Str → Option Value} {base : Heap} {a : Ad}
def sp_Expression_read (a : Ad) : Sp := fun vs H Q _ => ∃ (t : List Nat) (st' : RS), vs = [.ref a.C_Expression, .str (tx t)] ∧ t.length ≤ 10000 ∧ mOpen t ⟨0, [], []⟩ = some st' ∧ st'.ns = [] ∧ st'.i = t.length ∧ st'.rows.length ≤ 100 ∧
  ∀ p H', Same H H' → H p = none → ExprAt a H' p t st'.rows → Q (.ref p) H'
theorem ok_Expression_read (T : Txt K mg a) : FnOk P w K mg base CX0 9 a.f_Expression_read a.fd_Expression_read ["cls", "text"]  (sp_Expression_read a) := by
  refine T.F_Expression_read.ok sc_Expression_read (fun vs H Q E h => ?_) (fun cdv A outer s H vs Q E hr h => ?_)
  · obtain ⟨_, _, rfl, _⟩ := h
    rfl
  · obtain ⟨t, st', rfl, hl, hm, hns, hend, hrl, k⟩ := h
    refine ⟨_, ((pss_cons (ps_if (pt_not (pt_val (pe_callB call_isi (by rfl) T.n_isinstance (by decide +kernel) (pa_cons (pv 1) (pa_cons (pe_bltn (v := .ty "str") (by rfl) T.n_str (by decide +kernel) rfl) pa_nil)))))
 (pss_one ps_never)
 pss_nil)
 (pss_cons (ps_set (i := 2) sc_Expression_read.nd rfl (Or.inl rfl) (pe_meth0 (pe_make T.mk_Reader (ok_Reader_init T) (hr.mono (by decide)) rfl T.g_Reader T.b_Reader_init .nil pass0 (pa_cons (pv 1) pa_nil)) T.cl_Reader T.m_Reader_whole (ok_Reader_whole T) hr T.b_Reader_whole .nil pass0))
 (pss_cons (ps_if (pt_cmpR op_gt (pe_call (ok_count_steps T) (hr.mono (by decide)) rfl T.g_count_steps T.F_count_steps.kp T.b_count_steps .nil pass0 (pa_cons (pv 2) pa_nil)) (pe_glob (v := .int 100) rfl T.g_MOST ⟨_, rfl⟩) (nomark _))
 (pss_one ps_never)
 pss_nil)
 (pss_one (ps_ret (pe_makeL (i := 0) T.mk_Expression (ok_Expression_init T) (hr.mono (by decide)) rfl (Or.inl rfl) T.b_Expression_init pass0 (pa_cons (pv 1) (pa_cons (pv 2) pa_nil))))))))), ?_⟩
    try simp only [cxK]
    lcg_off
    kas_types
    lcg_off
    refine iteF ?_
    lcg_off
    intro x dx nx ndx ne
    have h1 : (upd H dx (.own x)) x = none := upd_oldN ne.symm nx
    refine ⟨H, x, dx, t, rfl, upd_same, nx, (same_new ndx).trans (same_new h1), hl, fun nq rq H1 R1 => ⟨rfl, ?_⟩⟩
    refine methR R1 (by decide +kernel) (by decide +kernel) (by decide +kernel) (by decide +kernel) ?_
    lcg_off
    refine ⟨H, x, dx, nq, rq, t, _, st', rfl, R1, by show 0 ≤ 1000; decide, hm, hns, hend, fun H2 ys s2 hrq hy hR => ?_⟩
    lcg_off
    refine ⟨rq, ys, st'.rows, rfl, hy, hR, by omega, fun H3 s3 => ?_⟩
    have hst : nSteps st'.rows ≤ st'.rows.length := List.length_filter_le _ _
    lcg_off
    refine ifD (fun z => absurd z (by omega)) (fun _ => ?_)
    lcg_off
    refine make_expr (s0 := Same.refl _) (s3 _ _ hy) (hR.mono s3) fun p H' s1 hp he => ?_
    exact k p H' ((s2.trans s3).trans s1) ((s2.trans s3).free hp) he
theorem own_Expression_eq {X : Cx} {a : Ad} (T : Txt X.K X.mg a) : Own X a.C_Expression "__eq__" 1 (sp_Expression_eq a) E0 := ⟨_, _, _, CX0, ok_Expression_eq T, T.m_Expression_eq.at_, T.m_Expression_eq.fn, T.b_Expression_eq, pass0⟩
theorem own_Expression_len {X : Cx} {a : Ad} (T : Txt X.K X.mg a) : Own X a.C_Expression "__len__" 1 (sp_Expression_len a) E0 := ⟨_, _, _, CX0, ok_Expression_len T, T.m_Expression_len.at_, T.m_Expression_len.fn, T.b_Expression_len, pass0⟩
theorem own_Expression_str {X : Cx} {a : Ad} (T : Txt X.K X.mg a) : Own X a.C_Expression "__str__" 1 (sp_Expression_str a) E0 := ⟨_, _, _, CX0, ok_Expression_str T, T.m_Expression_str.at_, T.m_Expression_str.fn, T.b_Expression_str, pass0⟩
end
end K31

namespace K31
open PySem L2 Hk
/-! ### the mathematics of reading a leaf or a request -/
theorem lead_all : ∀ {l r : List Nat} {n : Nat}, (∀ c ∈ l, c ∈ smalls) → l.length ≤ n → (∀ c, r.head? = some c → c ∉ smalls) → lead n (l ++ r) = l.length
  | [], r, n, _, _, hr => by
    cases n with
    | zero => rfl
    | succ n =>
      cases r with
      | nil => rfl
      | cons c r =>
        show (if c ∈ smalls then lead n r + 1 else 0) = 0
        rw [if_neg (hr c rfl)]
  | c :: l, r, n, hs, hn, hr => by
    cases n with
    | zero => simp at hn
    | succ n =>
      show (if c ∈ smalls then lead n (l ++ r) + 1 else 0) = _
      rw [if_pos (hs c (by simp)), lead_all (fun c hc => hs c (by simp [hc])) (by simpa using hn) hr]
      rfl
theorem small_not {c : Nat} (h : c ∈ smalls) : c ≠ 40 ∧ c ∉ capitals ∧ c < 128 := by
  have : ∀ c ∈ smalls, c ≠ 40 ∧ c ∉ capitals ∧ c < 128 := by decide
  exact this c h
theorem cap_not {c : Nat} (h : c ∈ capitals) : c ≠ 40 ∧ c ∉ smalls ∧ c < 128 := by
  have : ∀ c ∈ capitals, c ≠ 40 ∧ c ∉ smalls ∧ c < 128 := by decide
  exact this c h
/-- a class name -/
structure IsClass (n : List Nat) : Prop where
  ex : ∃ c r, n = c :: r ∧ c ∈ capitals ∧ (∀ x ∈ r, x ∈ smalls) ∧ r.length ≤ 7
theorem IsClass.okT {n : List Nat} (h : IsClass n) : okT n := by
  obtain ⟨c, r, rfl, hc, hr, _⟩ := h.ex
  intro x hx
  rcases List.mem_cons.mp hx with e | e
  · subst e; exact (cap_not hc).2.2
  · exact (small_not (hr x e)).2.2
theorem smalls_okT {l : List Nat} (h : ∀ c ∈ l, c ∈ smalls) : okT l := fun c hc => (small_not (h c hc)).2.2
/-- a class name is read where it stands -/
theorem mClass_at {t pre n post : List Nat} {st : RS} (ht : t = pre ++ (n ++ post)) (hi : st.i = pre.length) (hn : IsClass n) (hp : ∀ c, post.head? = some c → c ∉ smalls) : mClass t st = some (n, { st with i := pre.length + n.length }) := by
  obtain ⟨c, r, rfl, hc, hr, hl⟩ := hn.ex
  have e0 : t[st.i]? = some c := by
    rw [ht, hi, List.getElem?_append_right (Nat.le_refl _)]
    simp
  have e1 : mSkip t capitals st = some { st with i := st.i + 1 } := by
    unfold mSkip
    rw [e0]
    show (if c ∈ capitals then _ else _) = _
    rw [if_pos hc]
  have e2 : t.drop (st.i + 1) = r ++ post := by
    rw [ht, hi]
    have : pre ++ (c :: r ++ post) = (pre ++ [c]) ++ (r ++ post) := by simp
    rw [this, List.drop_left' (by simp)]
  have e3 : lead 7 (t.drop (st.i + 1)) = r.length := by
    rw [e2]
    exact lead_all hr hl hp
  have e4 : mLetters t 7 { st with i := st.i + 1 } = { st with i := pre.length + (c :: r).length } := by
    show ({ st with i := st.i + 1 + lead 7 (t.drop (st.i + 1)) } : RS) = _
    rw [e3, hi]
    simp [Nat.add_assoc, Nat.add_comm 1]
  have e5 : (t.drop st.i).take (pre.length + (c :: r).length - st.i) = c :: r := by
    rw [ht, hi, List.drop_left, Nat.add_sub_cancel_left, List.take_left]
  unfold mClass
  rw [e1]
  simp only [Option.map_some, e4]
  rw [e5]
theorem mSkip_at {t pre post l : List Nat} {c : Nat} {st : RS} (ht : t = pre ++ c :: post) (hi : st.i = pre.length) (hc : c ∈ l) : mSkip t l st = some { st with i := pre.length + 1 } := by
  unfold mSkip
  have e0 : t[st.i]? = some c := by
    rw [ht, hi, List.getElem?_append_right (Nat.le_refl _)]
    simp
  rw [e0]
  show (if c ∈ l then _ else _) = _
  rw [if_pos hc, hi]
theorem mWord_at {t pre l post : List Nat} {n : Nat} {st : RS} (ht : t = pre ++ (l ++ post)) (hi : st.i = pre.length) (hs : ∀ c ∈ l, c ∈ smalls) (hn : l.length ≤ n) (hp : ∀ c, post.head? = some c → c ∉ smalls) :
    mWord t n st = l ∧ mLetters t n st = { st with i := pre.length + l.length } := by
  have e : t.drop st.i = l ++ post := by rw [ht, hi, List.drop_left]
  have e2 : lead n (t.drop st.i) = l.length := by rw [e]; exact lead_all hs hn hp
  constructor
  · unfold mWord
    rw [e2, e, List.take_left]
  · unfold mLetters
    rw [e2, hi]
theorem open_leaf {l n : List Nat} (hl : ∀ c ∈ l, c ∈ smalls) (h0 : l ≠ []) (h8 : l.length ≤ 8) (hn : IsClass n) : mOpen (l ++ 58 :: n) ⟨0, [], []⟩ = some ⟨(l ++ 58 :: n).length, [], [.leaf l n]⟩ := by
  obtain ⟨c, l', rfl⟩ := List.exists_cons_of_ne_nil h0
  have hc := small_not (hl c (by simp))
  obtain ⟨w1, w2⟩ := mWord_at (t := c :: l' ++ 58 :: n) (pre := []) (l := c :: l') (post := 58 :: n) (n := 8) (st := ⟨0, [], []⟩) rfl rfl hl h8 (fun x hx => by simp at hx; subst hx; decide)
  have k2 := mSkip_at (t := c :: l' ++ 58 :: n) (pre := c :: l') (post := n) (l := [58]) (c := 58) (st := ⟨(c :: l').length, [], []⟩) rfl rfl (by simp)
  have k3 := mClass_at (t := c :: l' ++ 58 :: n) (pre := c :: l' ++ [58]) (n := n) (post := []) (st := ⟨(c :: l').length + 1, [], []⟩) (by simp) (by simp) hn (fun x hx => by simp at hx)
  have e0 : (c :: l' ++ 58 :: n)[(⟨0, [], []⟩ : RS).i]? = some c := rfl
  unfold mOpen
  rw [e0]
  show (if c = 40 then none else if c ∈ capitals then _ else if mWord (c :: l' ++ 58 :: n) 8 ⟨0, [], []⟩ = [] then none else _) = _
  rw [if_neg hc.1, if_neg hc.2.1, w1, if_neg h0, w2]
  simp only [List.length_nil, Nat.zero_add]
  rw [k2]
  simp only [Option.bind_some]
  rw [k3]
  simp [Nat.add_assoc, Nat.add_comm, Nat.add_left_comm]
theorem open_asked {n wd : List Nat} (hn : IsClass n) (hl : ∀ c ∈ wd, c ∈ smalls) (h0 : wd ≠ []) (h8 : wd.length ≤ 8) (hu : wd ∉ unaries) : mOpen (n ++ 46 :: wd) ⟨0, [], []⟩ = some ⟨(n ++ 46 :: wd).length, [], [.asked wd n]⟩ := by
  have k1 := mClass_at (t := n ++ 46 :: wd) (pre := []) (n := n) (post := 46 :: wd) (st := ⟨0, [], []⟩) rfl rfl hn (fun x hx => by simp at hx; subst hx; decide)
  have k2 := mSkip_at (t := n ++ 46 :: wd) (pre := n) (post := wd) (l := [46]) (c := 46) (st := ⟨n.length, [], []⟩) rfl rfl (by simp)
  obtain ⟨w1, w2⟩ := mWord_at (t := n ++ 46 :: wd) (pre := n ++ [46]) (l := wd) (post := []) (n := 8) (st := ⟨n.length + 1, [], []⟩) (by simp) (by simp) hl h8 (fun x hx => by simp at hx)
  obtain ⟨c, r, rfl, hc, _, _⟩ := hn.ex
  have e0 : (c :: r ++ 46 :: wd)[(⟨0, [], []⟩ : RS).i]? = some c := rfl
  unfold mOpen
  rw [e0]
  show (if c = 40 then none else if c ∈ capitals then mRequest (c :: r ++ 46 :: wd) ⟨0, [], []⟩ else _) = _
  rw [if_neg (cap_not hc).1, if_pos hc]
  unfold mRequest
  rw [k1]
  simp only [List.length_nil, Nat.zero_add, Option.bind_some]
  rw [k2]
  simp only [Option.bind_some]
  rw [w1, w2, if_neg (fun z => z.elim h0 hu)]
  simp [Nat.add_assoc, Nat.add_comm, Nat.add_left_comm]
end K31

namespace K31
open PySem L2 Hk
theorem same_ext {H X : Hp} {q : Addr} {o : HO} (e : Same H X) (h : X q = none) : Same H (upd X q o) := e.trans (same_new h)
theorem same_step {H X Y : Hp} (e : Same X Y) (h : Same H X) : Same H Y := h.trans e
theorem rd_parA {D : Ends} {σ : L2.St} {H : Hp} {tt : TA} {n m : Nat} (h : tt σ H fun vs H1 => ∃ v w, vs = [v, w] ∧ D.nx ((σ.set n (some v)).set m (some w)) H1) : tPar n m tt D σ H := h
local macro_rules | `(tactic| array_mem_dec) => `(tactic| first
  | assumption | exact upd_same
  | (apply upd_new; assumption; array_mem_dec)
  | (apply upd_old; tlg_ne; array_mem_dec)
  | (apply same_at; assumption; array_mem_dec))
local macro_rules | `(tactic| tlg_ne) => `(tactic| first
  | assumption | (apply Ne.symm; assumption)
  | (apply ne_new; assumption; array_mem_dec) | (apply ne_new'; assumption; array_mem_dec)
  | (apply ne_of; assumption; assumption; (intro z; cases z; done)))
local macro_rules | `(tactic| decreasing_trivial_pre_omega) => `(tactic| first
  | assumption | (apply sqL_of; array_mem_dec) | (apply sqT_of; array_mem_dec)
  | (apply Same.seq; assumption; decreasing_trivial_pre_omega) | (apply sqT_same; assumption; decreasing_trivial_pre_omega)
  | (apply sqL_new; assumption; decreasing_trivial_pre_omega) | (apply sqL_upd; tlg_ne; decreasing_trivial_pre_omega))
local macro_rules | `(tactic| kpt_turns) => `(tactic| first
  | assumption | exact Same.refl _ | (apply same_ext; kpt_turns; assumption) | (apply same_mut; kpt_turns; keq_hits) | (apply same_step; assumption; kpt_turns))
local macro_rules | `(tactic| keq_hits) => `(tactic| first | assumption | (apply same_none; assumption; keq_hits))
local macro_rules | `(tactic| sizeOf_list_dec) => `(tactic| first | (with_reducible assumption) | (with_reducible_and_instances omega) | (with_unfolding_all decide))
local macro_rules | `(tactic| array_get_dec) => `(tactic| first | (with_reducible assumption) | (apply sz_of; (with_unfolding_all simp); done) | (apply sz_of; omega) | (apply sz_lt; (with_unfolding_all simp); done) | (apply sz_lt; omega))
local macro_rules | `(tactic| keq_rows) => `(tactic| with_reducible first
  | refine rd_asgN ?_ | refine rd_seq ?_ | refine rd_asg ?_ | refine rd_gname ?_ | refine rd_op ?_ | refine rd_var (by with_unfolding_all rfl) ?_ | refine rd_c ?_ | refine rd_I0 ?_
  | refine rd_cons ?_ | refine rd_nil ?_ | refine rd_cb ?_ | refine rd_test ?_ | refine rd_bl ?_ | refine rd_fld ?_ | refine rd_drop ?_ | refine rd_ret ?_ | refine rd_retN ?_ | refine rd_next ?_
  | refine rd_ifS ?_ | refine rd_un ?_ | refine rd_B ?_ | refine rd_and ?_ | refine rd_or ?_ | refine rd_not ?_ | refine rd_andV ?_ | refine rd_orV ?_ | refine rd_notV ?_ | refine rd_if ?_
  | refine rd_int ?_ | refine rd_abs ?_ | refine rd_max ?_ | refine rd_min ?_ | refine rd_strS ?_ | refine rd_U ?_
  | refine rd_eqTx ?_ | refine rd_neTx ?_ | refine rd_inTx ?_ | refine rd_notInTx ?_ | refine rd_fmt ?_ | refine rd_fmtT (by omega) ?_ | refine rd_jsC ?_ | refine rd_jsN ?_ | refine rd_JsK (by (try simp); omega) ?_ | refine rd_addT (by (try simp); omega) ?_ | refine rd_lenTx (by omega) ?_
  | refine rd_eq (by with_unfolding_all rfl) ?_ | refine rd_ne (by with_unfolding_all rfl) ?_ | refine rd_isNone ?_ | refine rd_notNone ?_
  | refine rd_ixL (by decreasing_trivial_pre_omega) (by with_unfolding_all rfl) ?_ | refine rd_ixT (by decreasing_trivial_pre_omega) (by with_unfolding_all rfl) ?_
  | refine rd_lenL (by decreasing_trivial_pre_omega) ?_ | refine rd_lenT (by decreasing_trivial_pre_omega) ?_
  | refine rd_mod (by sizeOf_list_dec) ?_ | refine rd_div (by sizeOf_list_dec) (by sizeOf_list_dec) ?_ | refine rd_mulR (by sizeOf_list_dec) (by sizeOf_list_dec) ?_ | refine rd_mulL (by sizeOf_list_dec) (by sizeOf_list_dec) ?_ | refine rd_pow (by sizeOf_list_dec) ?_
  | refine rd_setL (by array_mem_dec) (by with_unfolding_all rfl) ?_
  | refine rd_slL (by decreasing_trivial_pre_omega) ?_ | refine rd_inSign ?_ | refine rd_notInSign ?_ | refine rd_tup ?_ | refine rd_lst ?_ | refine rd_sl ?_ | refine rd_noPart ?_ | refine rd_part ?_ | refine rd_isInt ?_
  | refine rd_gsub ?_ | refine rd_gcons ?_ | refine rd_gnil ?_ | refine rd_call ?_ | refine rd_meth ?_ | refine rd_make ?_ | refine rd_smeth ?_ | refine rd_isC ?_ | refine rd_smethK ?_ | refine rd_cmeth ?_ | refine rd_cmethK ?_
  | refine rd_bm ?_ | refine rd_bm0 ?_ | refine rd_bmL (by array_mem_dec) ?_ | refine rd_bm0L (by array_mem_dec) ?_ | refine rd_sfld ?_ | refine rd_aug ?_ | refine rd_rAdd ?_ | refine rd_brk ?_ | refine rd_cont ?_
  | refine rd_for ?_ | refine rd_iList ?_ | refine rd_IList (by decreasing_trivial_pre_omega) ?_ | refine rd_iTup ?_ | refine rd_ITup (by decreasing_trivial_pre_omega) ?_ | refine rd_iEnum ?_ | refine rd_IEnum (by decreasing_trivial_pre_omega) ?_ | refine rd_iRng1 ?_ | refine rd_IRng1 (by sizeOf_list_dec) (by sizeOf_list_dec) ?_
  | refine rd_new (by array_get_dec) ?_ | refine rd_lenS (by array_get_dec) ?_ | refine rd_addS (by array_get_dec) ?_ | refine rd_slS (by array_get_dec) ?_ | refine rd_lc ?_ | refine rd_yes ?_ | refine rd_gtup (by decreasing_trivial_pre_omega) (by with_unfolding_all rfl) ?_ | refine rd_makeL (by with_unfolding_all rfl) ?_)
local macro_rules | `(tactic| kas_types) => `(tactic| with_reducible first | refine rd_isi_int_int ?_ | refine rd_isi_int_bool ?_ | refine rd_isi_int_str ?_ | refine rd_isi_int_list ?_ | refine rd_isi_int_tuple ?_ | refine rd_isi_bool_int ?_ | refine rd_isi_bool_bool ?_ | refine rd_isi_bool_str ?_ | refine rd_isi_bool_list ?_ | refine rd_isi_bool_tuple ?_ | refine rd_isi_str_int ?_ | refine rd_isi_str_bool ?_ | refine rd_isi_str_str ?_ | refine rd_isi_str_list ?_ | refine rd_isi_str_tuple ?_ | refine rd_isi_list_int (by array_mem_dec) ?_ | refine rd_isi_list_bool (by array_mem_dec) ?_ | refine rd_isi_list_str (by array_mem_dec) ?_ | refine rd_isi_list_list (by array_mem_dec) ?_ | refine rd_isi_list_tuple (by array_mem_dec) ?_ | refine rd_isi_tuple_int (by array_mem_dec) ?_ | refine rd_isi_tuple_bool (by array_mem_dec) ?_ | refine rd_isi_tuple_str (by array_mem_dec) ?_ | refine rd_isi_tuple_list (by array_mem_dec) ?_ | refine rd_isi_tuple_tuple (by array_mem_dec) ?_ | refine rd_isi_NoneType_int ?_ | refine rd_isi_NoneType_bool ?_ | refine rd_isi_NoneType_str ?_ | refine rd_isi_NoneType_list ?_ | refine rd_isi_NoneType_tuple ?_)
local macro_rules | `(tactic| lcg_src) => `(tactic| repeat keq_rows)

local macro_rules | `(tactic| lcg_off) => `(tactic| repeat (first | keq_rows | (with_reducible refine rd_parA ?_)))
section
variable {P : Program} {w : World} {K : PySem.W.Frag} {mg : Str → Option Value} {base : Heap} {a : Ad}
/-! ### questions of an expression that stands -/
variable {H : Hp} {Q : VK} {p : Addr} {t : List Nat} {rows : List Row} {E : XK}
theorem ask_str (he : ExprAt a H p t rows) (q : Q (.str (tx t)) H) : rStrO a.C_Expression (sp_Expression_str a) E [.ref p] H Q := by
  obtain ⟨dx, _, _, h, _⟩ := he.ex
  exact ⟨p, dx, _, rfl, h, p, t, rows, rfl, he, _, rfl, q⟩
theorem ask_len (he : ExprAt a H p t rows) (hn : rows.length ≤ 1000) (q : ∀ H', Same H H' → Q (.int (nSteps rows : Nat)) H') : rLenO a.C_Expression (sp_Expression_len a) E [.ref p] H Q := by
  obtain ⟨dx, _, _, h, _⟩ := he.ex
  have hst : nSteps rows ≤ rows.length := List.length_filter_le _ _
  exact ⟨p, dx, _, rfl, h, p, t, rows, rfl, he, hn, fun H' s => ⟨_, rfl, ⟨by omega, by omega⟩, q H' s⟩⟩
theorem ask_eq {X : Cx} {p2 : Addr} {t2 : List Nat} {rows2 : List Row} (he : ExprAt a H p t rows) (he2 : ExprAt a H p2 t2 rows2) (q : Q (.bl (decide (t = t2))) H) : rEqO X a.C_Expression (sp_Expression_eq a) E (.ref p) (.ref p2) H Q := by
  obtain ⟨dx, _, _, h, _⟩ := he.ex
  obtain ⟨dx2, _, _, h2, _⟩ := he2.ex
  exact ⟨p, dx, _, rfl, h, .inl ⟨p2, dx2, _, rfl, h2⟩, p, p2, t, t2, rows, rows2, rfl, he, he2, _, rfl, q⟩
theorem ask_ne {X : Cx} {p2 : Addr} {t2 : List Nat} {rows2 : List Row} (he : ExprAt a H p t rows) (he2 : ExprAt a H p2 t2 rows2) (q : Q (.bl (!decide (t = t2))) H) : rNeO X a.C_Expression (sp_Expression_eq a) E (.ref p) (.ref p2) H Q := by
  obtain ⟨dx, _, _, h, _⟩ := he.ex
  obtain ⟨dx2, _, _, h2, _⟩ := he2.ex
  exact ⟨p, dx, _, rfl, h, .inl ⟨p2, dx2, _, rfl, h2⟩, p, p2, t, t2, rows, rows2, rfl, he, he2, _, rfl, q⟩
theorem methE {m : Str} {sp : Sp} {tt : TA} {σ : L2.St} (he : ExprAt a H p t rows) (h1 : (m == ("text" : Str)) = false) (h2 : (m == ("program" : Str)) = false) (q : tt σ H fun vs H2 => sp (.ref p :: (vs ++ [])) H2 Q E) : MethK a.C_Expression m sp E tt σ (.ref p) H Q := by
  obtain ⟨dx, _, _, h, _⟩ := he.ex
  exact rd_methK h (fE_no h1 h2) q
/-- a list of one pair against another such -/
theorem one_pair {l n : List Nat} {q : Addr} {xs : List V} (hq : H q = some (.lst xs)) (hP : PairsAt H xs [(l, n)]) : Dp K H (.ref q) (.list [pairD (l, n)]) := .lst (sqL_of hq) hP.dp
theorem made_pair {l n : List Nat} {T0 L : Addr} (h : H L = some (.lst [.ref T0])) (hT : H T0 = some (.tup [.str (tx l), .str (tx n)])) : Dp K H (.ref L) (.list [pairD (l, n)]) :=
  .lst (sqL_of h) (.cons (.tup (sqT_of hT) (.cons (.str _) (.cons (.str _) .nil))) .nil)
theorem pair_shaped {l n : List Nat} (h1 : okT l) (h2 : okT n) : SeqAt.shaped (.list [pairD (l, n)]) = true := pairDs_shaped (ps := [(l, n)]) (fun p hp => by rw [List.mem_singleton.mp hp]; exact ⟨h1, h2⟩)
theorem pair_eqv {l n : List Nat} (h1 : okT l) (h2 : okT n) : PyData.eqv (.list [pairD (l, n)]) (.list [pairD (l, n)]) = true := SeqAt.eqv_refl _ (SeqAt.canLay_of_shaped (pair_shaped h1 h2))
/-- a drawn leaf is as it must be -/
def sp_law_leaf_right : Sp := fun vs H Q _ => ∃ (b : Addr) (d m : Int), vs = [.ref b] ∧ H b = some (.lst [.int d, .int m]) ∧ ∀ H' d' m', (∀ c o, c ≠ b → H c = some o → H' c = some o) → H' b = some (.lst [.int d', .int m']) → Q (.bl true) H'
theorem ok_law_leaf_right (T : Txt K mg a) : FnOk P w K mg base CX0 10 a.f_law_leaf_right a.fd_law_leaf_right ["_law_bag_here"]  sp_law_leaf_right := by
  refine T.F_law_leaf_right.ok sc_law_leaf_right (fun vs H Q E h => ?_) (fun cdv A outer s H vs Q E hr h => ?_)
  · obtain ⟨_, _, _, rfl, _⟩ := h
    rfl
  · obtain ⟨b, d, m, rfl, hb, k⟩ := h
    refine ⟨_, ((pss_cons (ps_set (i := 1) sc_law_leaf_right.nd rfl (Or.inl rfl) (pe_call (ok_law_letters T) (hr.mono (by decide)) rfl T.g_law_letters T.F_law_letters.kp T.b_law_letters .nil pass0 (pa_cons (pv 0) (pa_cons (pe_call (ok_law_of T) (hr.mono (by decide)) rfl T.g_law_of T.F_law_of.kp T.b_law_of .nil pass0 (pa_cons (pv 0) (pa_cons pe_str pa_nil))) (pa_cons pe_int pa_nil)))))
 (pss_cons (ps_set (i := 2) sc_law_leaf_right.nd rfl (Or.inl rfl) (pe_call (ok_law_letters T) (hr.mono (by decide)) rfl T.g_law_letters T.F_law_letters.kp T.b_law_letters .nil pass0 (pa_cons (pv 0) (pa_cons (pe_call (ok_law_of T) (hr.mono (by decide)) rfl T.g_law_of T.F_law_of.kp T.b_law_of .nil pass0 (pa_cons (pv 0) (pa_cons pe_str pa_nil))) (pa_cons pe_int pa_nil)))))
 (pss_cons (ps_par (i := 3) (j := 4) (by rfl) sc_law_leaf_right.nd rfl rfl (by decide) rfl rfl (pa_cons (pe_smeth (pe_glob (v := .ref _) rfl T.g_Expression rfl) T.sm_Expression_leaf (ok_Expression_leaf T) (hr.mono (by decide)) T.b_Expression_leaf pass0 (pa_cons (pv 1) (pa_cons (pv 2) pa_nil))) (pa_cons (pe_op op_addStr (pe_op op_addStr (pv 1) pe_str) (pv 2)) pa_nil)) (by rfl))
 (pss_cons (ps_set (i := 5) sc_law_leaf_right.nd rfl (Or.inl rfl) (pe_smethK (pe_glob (v := .ref _) rfl T.g_Expression rfl) T.sm_Expression_leaf (ok_Expression_leaf T) (hr.mono (by decide)) T.kb_Expression_leaf_name_label pass0 (pk_cons (pv 2) (pk_cons (pv 1) pk_nil))))
 (pss_cons (ps_set (i := 6) sc_law_leaf_right.nd rfl (Or.inl rfl) (pe_meth0 (pv 3) T.cl_Expression T.m_Expression_leaves (ok_Expression_leaves T) (hr.mono (by decide)) T.b_Expression_leaves .nil pass0))
 (pss_cons (ps_if (PW.pt (pw_or (pt_cmpR op_ne (pe_callTy (call_strO (own_Expression_str T) (hr.mono (by decide))) (by rfl) T.n_str (by decide +kernel) (pa_cons (pv 3) pa_nil)) (pv 4) (nomark _)) (pw_or (pt_not (pt_val (pe_call (ok_law_number T) (hr.mono (by decide)) rfl T.g_law_number T.F_law_number.kp T.b_law_number .nil pass0 (pa_cons (pe_callB (call_lenO (own_Expression_len T) (hr.mono (by decide))) (by rfl) T.n_len (by decide +kernel) (pa_cons (pv 3) pa_nil)) (pa_cons pe_int pa_nil))))) (pw_or1 (pt_cmpR (op_neD hr.units) (pv 6) (pe_lst (pa_cons (pe_tup (pa_cons (pv 1) (pa_cons (pv 2) pa_nil))) pa_nil)) (nomark _))))))
 (pss_one (ps_ret pe_bl))
 pss_nil)
 (pss_cons (ps_if (PW.pt (pw_or (pt_cmpR (op_neD hr.units) (pe_meth0 (pv 3) T.cl_Expression T.m_Expression_signs (ok_Expression_signs T) (hr.mono (by decide)) T.b_Expression_signs .nil pass0) (pe_lst pa_nil) (nomark _)) (pw_or (pt_not (pt_val (pe_callB call_isi (by rfl) T.n_isinstance (by decide +kernel) (pa_cons (pv 6) (pa_cons (pe_bltn (v := .ty "list") (by rfl) T.n_list (by decide +kernel) rfl) pa_nil))))) (pw_or1 (pt_not (pt_val (pe_callB call_isi (by rfl) T.n_isinstance (by decide +kernel) (pa_cons (pe_ix ix_list (pv 6) pe_int (fun _ _ => rfl)) (pa_cons (pe_bltn (v := .ty "tuple") (by rfl) T.n_tuple (by decide +kernel) rfl) pa_nil)))))))))
 (pss_one (ps_ret pe_bl))
 pss_nil)
 (pss_cons (ps_expr (pe_bm PySem.F.plainAttrs_list PySem.F.slot_list_append PySem.F.type_list_append mt_append (pv 6) (pa_cons (pe_tup (pa_cons pe_str (pa_cons pe_str pa_nil))) pa_nil)))
 (pss_cons (ps_if (PW.pt (pw_or (pt_cmpR (op_neD hr.units) (pe_meth0 (pv 3) T.cl_Expression T.m_Expression_leaves (ok_Expression_leaves T) (hr.mono (by decide)) T.b_Expression_leaves .nil pass0) (pe_lst (pa_cons (pe_tup (pa_cons (pv 1) (pa_cons (pv 2) pa_nil))) pa_nil)) (nomark _)) (pw_or (pt_cmpR (op_neO (own_Expression_eq T) T.ne_Expression (hr.mono (by decide))) (pv 3) (pv 5) (nomark _)) (pw_or1 (pt_cmpR op_ne (pe_callTy (call_strO (own_Expression_str T) (hr.mono (by decide))) (by rfl) T.n_str (by decide +kernel) (pa_cons (pv 5) pa_nil)) (pv 4) (nomark _))))))
 (pss_one (ps_ret pe_bl))
 pss_nil)
 (pss_cons (ps_set (i := 7) sc_law_leaf_right.nd rfl (Or.inl rfl) (ClX.pe_cmeth (pe_glob (v := .ref _) rfl T.g_Expression rfl) T.cr_Expression T.cm_Expression_read (fnR_of (ok_Expression_read T) T.b_Expression_read) hr pass0 (pa_cons (pv 4) pa_nil)))
 (pss_one (ps_ret (pe_and (pe_cmpR (op_eqO (own_Expression_eq T) (hr.mono (by decide))) (pv 7) (pv 3) (nomark _)) (pe_and (pe_cmpR op_eq (pe_callTy (call_strO (own_Expression_str T) (hr.mono (by decide))) (by rfl) T.n_str (by decide +kernel) (pa_cons (pv 7) pa_nil)) (pv 4) (nomark _)) (pe_and (pe_cmpR (op_eqD hr.units) (pe_meth0 (pv 7) T.cl_Expression T.m_Expression_leaves (ok_Expression_leaves T) (hr.mono (by decide)) T.b_Expression_leaves .nil pass0) (pe_lst (pa_cons (pe_tup (pa_cons (pv 1) (pa_cons (pv 2) pa_nil))) pa_nil)) (nomark _)) (pe_one (pe_cmpR op_eq (pe_callB (call_lenO (own_Expression_len T) (hr.mono (by decide))) (by rfl) T.n_len (by decide +kernel) (pa_cons (pv 7) pa_nil)) pe_int (nomark _))))))))))))))))))), ?_⟩
    try simp only [cxK, smalls_eq, capitals_eq, colon_tx]
    lcg_off
    refine ⟨b, d, m, smalls, rfl, hb, by decide, by decide, fun c d1 m1 hc => ?_⟩
    lcg_off
    refine ⟨b, d1, m1, 7, [c], rfl, upd_same, by decide, by decide, by simp, fun l2 d2 m2 hl2 hn2 => ?_⟩
    rw [upd_upd]
    lcg_off
    refine ⟨b, d2, m2, capitals, rfl, upd_same, by decide, by decide, fun c2 d3 m3 hc2 => ?_⟩
    rw [upd_upd]
    lcg_off
    refine ⟨b, d3, m3, 7, [c2], rfl, upd_same, by decide, by decide, by simp, fun l4 d4 m4 hl4 hn4 => ?_⟩
    rw [upd_upd]
    have hl : ∀ x ∈ [c] ++ l2, x ∈ smalls := fun x hx => by
      rcases List.mem_cons.mp hx with e | e
      · subst e; exact hc
      · exact hl2 x e
    have hn : IsClass ([c2] ++ l4) := ⟨c2, l4, rfl, hc2, hl4, by omega⟩
    have l0 : [c] ++ l2 ≠ [] := by simp
    have l8 : ([c] ++ l2).length ≤ 8 := by simp; omega
    have n8 : ([c2] ++ l4).length ≤ 8 := by simp; omega
    have hkeep : ∀ x o, x ≠ b → H x = some o → upd H b (.lst [.int d4, .int m4]) x = some o := fun x o hx e => upd_old hx e
    have hbag : upd H b (.lst [.int d4, .int m4]) b = some (.lst [.int d4, .int m4]) := upd_same
    generalize [c] ++ l2 = l at hl l0 l8
    generalize [c2] ++ l4 = n at hn n8
    generalize upd H b (.lst [.int d4, .int m4]) = H1 at hkeep hbag
    have okl := smalls_okT hl
    have okn := hn.okT
    lcg_off
    refine ⟨l, n, rfl, by omega, by omega, fun p1 H2 s2 f2 E1 => ?_⟩
    lcg_off
    have el : l ++ [58] ++ n = l ++ 58 :: n := by simp
    rw [el]
    refine rd_par2 ?_
    lcg_off
    refine ⟨l, n, rfl, by omega, by omega, fun p2 H3 s3 f3 E2 => ?_⟩
    lcg_off
    refine methE (E1.mono s3) (by decide +kernel) (by decide +kernel) ?_
    lcg_off
    refine ⟨p1, _, _, rfl, E1.mono s3, by simp, (fun r hr => by rw [List.mem_singleton.mp hr]; exact ⟨okl, okn⟩), fun q xs H4 hq s4 h4 hP hnew => ?_⟩
    have hP : PairsAt H4 xs [(l, n)] := hP
    lcg_off
    refine ask_str (E1.mono (s3.trans s4)) ?_
    lcg_off
    refine ifF (by simp) ?_
    lcg_off
    refine ask_len (E1.mono (s3.trans s4)) (by simp) fun H5 s5 => ?_
    lcg_off
    refine ⟨_, _, rfl, ?_⟩
    lcg_off
    refine ifF (by simp [nSteps, Row.step]) ?_
    lcg_off
    intro T0 hT0
    lcg_off
    intro L0 hL0
    obtain ⟨x0, rfl⟩ : ∃ x, xs = [x] := List.length_eq_one_iff.mp hP.1
    obtain ⟨r0, rfl, hr0⟩ := hP.2 0 x0 (l, n) rfl rfl
    refine rd_neD (one_pair (by array_mem_dec) (hP.mono (by kpt_turns))) (made_pair upd_same (by array_mem_dec)) (pair_shaped okl okn) (pair_shaped okl okn) ?_
    rw [pair_eqv okl okn]
    lcg_off
    refine iteF ?_
    -- signs() and the kinds of what was told
    lcg_off
    refine methE (E1.mono (by kpt_turns)) (by decide +kernel) (by decide +kernel) ?_
    lcg_off
    refine ⟨p1, _, _, rfl, E1.mono (by kpt_turns), by simp, fun q2 H6 hq2 s6 h6 => ?_⟩
    lcg_off
    intro L1 hL1
    refine rd_neD (d := .list []) (e := .list []) (.lst (sqL_of (upd_new hL1 h6)) .nil) (.lst (sqL_of upd_same) .nil) (by decide +kernel) (by decide +kernel) ?_
    lcg_off
    refine ifF (by decide +kernel) ?_
    have h4b : upd H6 L1 (.lst []) q = some (.lst [.ref r0]) := by array_mem_dec
    have hr0b : upd H6 L1 (.lst []) r0 = some (.tup [.str (tx l), .str (tx n)]) := by array_mem_dec
    lcg_off
    kas_types
    lcg_off
    refine ifF rfl ?_
    lcg_off
    kas_types
    lcg_off
    refine ifF rfl ?_
    -- told.append(('zz', 'Zz'))
    lcg_off
    intro T1 hT1
    lcg_off
    refine rd_append (by array_mem_dec) (sz_lt (by simp)) ?_
    have s7 : Same H3 (upd (upd (upd H6 L1 (.lst [])) T1 (.tup [.str "zz", .str "Zz"])) q (.lst ([.ref r0] ++ [.ref T1]))) := by kpt_turns
    generalize (upd (upd (upd H6 L1 (.lst [])) T1 (.tup [.str "zz", .str "Zz"])) q (.lst ([.ref r0] ++ [.ref T1]))) = H7 at s7
    -- asked again
    lcg_off
    refine methE (E1.mono (by kpt_turns)) (by decide +kernel) (by decide +kernel) ?_
    lcg_off
    refine ⟨p1, _, _, rfl, E1.mono (by kpt_turns), by simp, (fun r hr => by rw [List.mem_singleton.mp hr]; exact ⟨okl, okn⟩), fun q3 xs3 H8 hq3 s8 h8 hP8 hnew8 => ?_⟩
    have hP8 : PairsAt H8 xs3 [(l, n)] := hP8
    lcg_off
    intro T2 hT2
    lcg_off
    intro L2' hL2
    refine rd_neD (one_pair (by array_mem_dec) (hP8.mono (by kpt_turns))) (made_pair upd_same (by array_mem_dec)) (pair_shaped okl okn) (pair_shaped okl okn) ?_
    rw [pair_eqv okl okn]
    have s9 : Same H3 (upd (upd H8 T2 (.tup [.str (tx l), .str (tx n)])) L2' (.lst [.ref T2])) := by kpt_turns
    generalize upd (upd H8 T2 (.tup [.str (tx l), .str (tx n)])) L2' (.lst [.ref T2]) = H9 at s9
    lcg_off
    refine iteF ?_
    lcg_off
    refine ask_ne (E1.mono (by kpt_turns)) (E2.mono (by kpt_turns)) ?_
    lcg_off
    refine ifF (by simp) ?_
    lcg_off
    refine ask_str (E2.mono (by kpt_turns)) ?_
    lcg_off
    refine ifF (by simp) ?_
    -- the text read back
    lcg_off
    refine ⟨l ++ 58 :: n, _, rfl, by simp; omega, open_leaf hl l0 l8 hn, rfl, rfl, by simp, fun p3 Ha sa fa E3 => ?_⟩
    lcg_off
    refine ask_eq E3 (E1.mono (by kpt_turns)) ?_
    lcg_off
    refine ifT (by simp) ?_
    lcg_off
    refine ask_str E3 ?_
    lcg_off
    refine ifT (by simp) ?_
    lcg_off
    refine methE E3 (by decide +kernel) (by decide +kernel) ?_
    lcg_off
    refine ⟨p3, _, _, rfl, E3, by simp, (fun r hr => by rw [List.mem_singleton.mp hr]; exact ⟨okl, okn⟩), fun q4 xs4 Hb hq4 sb hb4 hP4 hnew4 => ?_⟩
    have hP4 : PairsAt Hb xs4 [(l, n)] := hP4
    lcg_off
    intro T3 hT3
    lcg_off
    intro L3 hL3
    refine rd_eqD (one_pair (by array_mem_dec) (hP4.mono (by kpt_turns))) (made_pair upd_same (by array_mem_dec)) (pair_shaped okl okn) (pair_shaped okl okn) ?_
    rw [pair_eqv okl okn]
    have sc : Same H3 (upd (upd Hb T3 (.tup [.str (tx l), .str (tx n)])) L3 (.lst [.ref T3])) := by kpt_turns
    have sc3 : Same Ha (upd (upd Hb T3 (.tup [.str (tx l), .str (tx n)])) L3 (.lst [.ref T3])) := by kpt_turns
    generalize upd (upd Hb T3 (.tup [.str (tx l), .str (tx n)])) L3 (.lst [.ref T3]) = Hc at sc sc3
    lcg_off
    refine iteT ?_
    lcg_off
    refine ask_len (E3.mono sc3) (by simp) fun Hd sd => ?_
    lcg_off
    have e0 : decide (V.int ((nSteps [Row.leaf l n] : Nat) : Int) = V.int 0) = true := by simp [nSteps, Row.step]
    rw [e0]
    have sf : Same H1 Hd := s2.trans (s3.trans (sc.trans sd))
    exact k Hd d4 m4 (fun x o hx e => sf _ _ (hkeep x o hx e)) (sf _ _ hbag)
end
end K31

namespace K31
open PySem L2 Hk
local macro_rules | `(tactic| array_mem_dec) => `(tactic| first
  | assumption | exact upd_same
  | (apply upd_new; assumption; array_mem_dec)
  | (apply upd_old; tlg_ne; array_mem_dec)
  | (apply same_at; assumption; array_mem_dec))
local macro_rules | `(tactic| tlg_ne) => `(tactic| first
  | assumption | (apply Ne.symm; assumption)
  | (apply ne_new; assumption; array_mem_dec) | (apply ne_new'; assumption; array_mem_dec)
  | (apply ne_of; assumption; assumption; (intro z; cases z; done)))
local macro_rules | `(tactic| decreasing_trivial_pre_omega) => `(tactic| first
  | assumption | (apply sqL_of; array_mem_dec) | (apply sqT_of; array_mem_dec)
  | (apply Same.seq; assumption; decreasing_trivial_pre_omega) | (apply sqT_same; assumption; decreasing_trivial_pre_omega)
  | (apply sqL_new; assumption; decreasing_trivial_pre_omega) | (apply sqL_upd; tlg_ne; decreasing_trivial_pre_omega))
local macro_rules | `(tactic| kpt_turns) => `(tactic| first
  | assumption | exact Same.refl _ | (apply same_ext; kpt_turns; assumption) | (apply same_mut; kpt_turns; keq_hits) | (apply same_step; assumption; kpt_turns))
local macro_rules | `(tactic| keq_hits) => `(tactic| first | assumption | (apply same_none; assumption; keq_hits))
local macro_rules | `(tactic| sizeOf_list_dec) => `(tactic| first | (with_reducible assumption) | (with_reducible_and_instances omega) | (with_unfolding_all decide))
local macro_rules | `(tactic| array_get_dec) => `(tactic| first | (with_reducible assumption) | (apply sz_of; (with_unfolding_all simp); done) | (apply sz_of; omega) | (apply sz_lt; (with_unfolding_all simp); done) | (apply sz_lt; omega))
local macro_rules | `(tactic| keq_rows) => `(tactic| with_reducible first
  | refine rd_asgN ?_ | refine rd_seq ?_ | refine rd_asg ?_ | refine rd_gname ?_ | refine rd_op ?_ | refine rd_var (by with_unfolding_all rfl) ?_ | refine rd_c ?_ | refine rd_I0 ?_
  | refine rd_cons ?_ | refine rd_nil ?_ | refine rd_cb ?_ | refine rd_test ?_ | refine rd_bl ?_ | refine rd_fld ?_ | refine rd_drop ?_ | refine rd_ret ?_ | refine rd_retN ?_ | refine rd_next ?_
  | refine rd_ifS ?_ | refine rd_un ?_ | refine rd_B ?_ | refine rd_and ?_ | refine rd_or ?_ | refine rd_not ?_ | refine rd_andV ?_ | refine rd_orV ?_ | refine rd_notV ?_ | refine rd_if ?_
  | refine rd_int ?_ | refine rd_abs ?_ | refine rd_max ?_ | refine rd_min ?_ | refine rd_strS ?_ | refine rd_U ?_
  | refine rd_eqTx ?_ | refine rd_neTx ?_ | refine rd_inTx ?_ | refine rd_notInTx ?_ | refine rd_fmt ?_ | refine rd_fmtT (by omega) ?_ | refine rd_jsC ?_ | refine rd_jsN ?_ | refine rd_JsK (by (try simp); omega) ?_ | refine rd_addT (by (try simp); omega) ?_ | refine rd_lenTx (by omega) ?_
  | refine rd_eq (by with_unfolding_all rfl) ?_ | refine rd_ne (by with_unfolding_all rfl) ?_ | refine rd_isNone ?_ | refine rd_notNone ?_
  | refine rd_ixL (by decreasing_trivial_pre_omega) (by with_unfolding_all rfl) ?_ | refine rd_ixT (by decreasing_trivial_pre_omega) (by with_unfolding_all rfl) ?_
  | refine rd_lenL (by decreasing_trivial_pre_omega) ?_ | refine rd_lenT (by decreasing_trivial_pre_omega) ?_
  | refine rd_mod (by sizeOf_list_dec) ?_ | refine rd_div (by sizeOf_list_dec) (by sizeOf_list_dec) ?_ | refine rd_mulR (by sizeOf_list_dec) (by sizeOf_list_dec) ?_ | refine rd_mulL (by sizeOf_list_dec) (by sizeOf_list_dec) ?_ | refine rd_pow (by sizeOf_list_dec) ?_
  | refine rd_setL (by array_mem_dec) (by with_unfolding_all rfl) ?_
  | refine rd_slL (by decreasing_trivial_pre_omega) ?_ | refine rd_inSign ?_ | refine rd_notInSign ?_ | refine rd_tup ?_ | refine rd_lst ?_ | refine rd_sl ?_ | refine rd_noPart ?_ | refine rd_part ?_ | refine rd_isInt ?_
  | refine rd_gsub ?_ | refine rd_gcons ?_ | refine rd_gnil ?_ | refine rd_call ?_ | refine rd_meth ?_ | refine rd_make ?_ | refine rd_smeth ?_ | refine rd_isC ?_ | refine rd_smethK ?_ | refine rd_cmeth ?_ | refine rd_cmethK ?_
  | refine rd_bm ?_ | refine rd_bm0 ?_ | refine rd_bmL (by array_mem_dec) ?_ | refine rd_bm0L (by array_mem_dec) ?_ | refine rd_sfld ?_ | refine rd_aug ?_ | refine rd_rAdd ?_ | refine rd_brk ?_ | refine rd_cont ?_
  | refine rd_for ?_ | refine rd_iList ?_ | refine rd_IList (by decreasing_trivial_pre_omega) ?_ | refine rd_iTup ?_ | refine rd_ITup (by decreasing_trivial_pre_omega) ?_ | refine rd_iEnum ?_ | refine rd_IEnum (by decreasing_trivial_pre_omega) ?_ | refine rd_iRng1 ?_ | refine rd_IRng1 (by sizeOf_list_dec) (by sizeOf_list_dec) ?_
  | refine rd_new (by array_get_dec) ?_ | refine rd_lenS (by array_get_dec) ?_ | refine rd_addS (by array_get_dec) ?_ | refine rd_slS (by array_get_dec) ?_ | refine rd_lc ?_ | refine rd_yes ?_ | refine rd_gtup (by decreasing_trivial_pre_omega) (by with_unfolding_all rfl) ?_ | refine rd_makeL (by with_unfolding_all rfl) ?_)
local macro_rules | `(tactic| kas_types) => `(tactic| with_reducible first | refine rd_isi_int_int ?_ | refine rd_isi_int_bool ?_ | refine rd_isi_int_str ?_ | refine rd_isi_int_list ?_ | refine rd_isi_int_tuple ?_ | refine rd_isi_bool_int ?_ | refine rd_isi_bool_bool ?_ | refine rd_isi_bool_str ?_ | refine rd_isi_bool_list ?_ | refine rd_isi_bool_tuple ?_ | refine rd_isi_str_int ?_ | refine rd_isi_str_bool ?_ | refine rd_isi_str_str ?_ | refine rd_isi_str_list ?_ | refine rd_isi_str_tuple ?_ | refine rd_isi_list_int (by array_mem_dec) ?_ | refine rd_isi_list_bool (by array_mem_dec) ?_ | refine rd_isi_list_str (by array_mem_dec) ?_ | refine rd_isi_list_list (by array_mem_dec) ?_ | refine rd_isi_list_tuple (by array_mem_dec) ?_ | refine rd_isi_tuple_int (by array_mem_dec) ?_ | refine rd_isi_tuple_bool (by array_mem_dec) ?_ | refine rd_isi_tuple_str (by array_mem_dec) ?_ | refine rd_isi_tuple_list (by array_mem_dec) ?_ | refine rd_isi_tuple_tuple (by array_mem_dec) ?_ | refine rd_isi_NoneType_int ?_ | refine rd_isi_NoneType_bool ?_ | refine rd_isi_NoneType_str ?_ | refine rd_isi_NoneType_list ?_ | refine rd_isi_NoneType_tuple ?_)
local macro_rules | `(tactic| lcg_src) => `(tactic| repeat keq_rows)

local macro_rules | `(tactic| lcg_off) => `(tactic| repeat (first | keq_rows | (with_reducible refine rd_parA ?_)))
theorem esses_tx : Str.ofString "s" = tx [115] := by decide +kernel
theorem neg_tx : Str.ofString "neg" = tx [110, 101, 103] := by decide +kernel
theorem pos_tx : Str.ofString "pos" = tx [112, 111, 115] := by decide +kernel
theorem abs_tx : Str.ofString "abs" = tx [97, 98, 115] := by decide +kernel
theorem invert_tx : Str.ofString "invert" = tx [105, 110, 118, 101, 114, 116] := by decide +kernel
section
variable {P : Program} {w : World} {K : PySem.W.Frag} {mg : Str → Option Value} {base : Heap} {a : Ad} {H : Hp}
theorem one_word {l : List Nat} {q : Addr} (hq : H q = some (.lst [.str (tx l)])) : Dp K H (.ref q) (.list [.str (tx l)]) := .lst (sqL_of hq) (.cons (.str _) .nil)
theorem word_shaped {l : List Nat} (h : okT l) : SeqAt.shaped (.list [.str (tx l)]) = true := by
  show (PyData.canLay0 (.list [.str (tx l)]) && decide (PyData.depth (.list [.str (tx l)]) ≤ 64)) = true
  have e : PyData.depth (.list [.str (tx l)]) ≤ 64 := by simp [PyData.depth, PyData.depthAll]
  rw [Bool.and_eq_true]
  exact ⟨by simp [PyData.canLay0, PyData.canLayAll0, okT_str h], decide_eq_true e⟩
theorem word_eqv {l : List Nat} (h : okT l) : PyData.eqv (.list [.str (tx l)]) (.list [.str (tx l)]) = true := SeqAt.eqv_refl _ (SeqAt.canLay_of_shaped (word_shaped h))
theorem more_s {l : List Nat} (h : l ∈ unaries) : l ++ [115] ∉ unaries ∧ (l ++ [115]).length ≤ 8 ∧ ∀ c ∈ l ++ [115], c ∈ smalls := by
  have : ∀ l ∈ unaries, l ++ [115] ∉ unaries ∧ (l ++ [115]).length ≤ 8 ∧ ∀ c ∈ l ++ [115], c ∈ smalls := by decide
  exact this l h
theorem nSteps_asked {wd n : List Nat} : nSteps [Row.asked wd n] = 1 := rfl
def sp_law_asked_right : Sp := sp_law_leaf_right
theorem ok_law_asked_right (T : Txt K mg a) : FnOk P w K mg base CX0 10 a.f_law_asked_right a.fd_law_asked_right ["_law_bag_here"]  sp_law_asked_right := by
  refine T.F_law_asked_right.ok sc_law_asked_right (fun vs H Q E h => ?_) (fun cdv A outer s H vs Q E hr h => ?_)
  · obtain ⟨_, _, _, rfl, _⟩ := h
    rfl
  · obtain ⟨b, d, m, rfl, hb, k⟩ := h
    refine ⟨_, ((pss_cons (ps_set (i := 1) sc_law_asked_right.nd rfl (Or.inl rfl) (pe_call (ok_law_letters T) (hr.mono (by decide)) rfl T.g_law_letters T.F_law_letters.kp T.b_law_letters .nil pass0 (pa_cons (pv 0) (pa_cons (pe_call (ok_law_of T) (hr.mono (by decide)) rfl T.g_law_of T.F_law_of.kp T.b_law_of .nil pass0 (pa_cons (pv 0) (pa_cons pe_str pa_nil))) (pa_cons pe_int pa_nil)))))
 (Evl.pss_cut (ps_if (pt_cmpR op_in_seq (pv 1) (pe_lst (pa_cons pe_str (pa_cons pe_str (pa_cons pe_str (pa_cons pe_str pa_nil))))) (by rfl))
 (pss_one (ps_set (i := 1) sc_law_asked_right.nd rfl (Or.inl rfl) (pe_op op_addStr (pv 1) pe_str)))
 pss_nil)
 (pss_cons (ps_set (i := 2) sc_law_asked_right.nd rfl (Or.inl rfl) (pe_call (ok_law_letters T) (hr.mono (by decide)) rfl T.g_law_letters T.F_law_letters.kp T.b_law_letters .nil pass0 (pa_cons (pv 0) (pa_cons (pe_call (ok_law_of T) (hr.mono (by decide)) rfl T.g_law_of T.F_law_of.kp T.b_law_of .nil pass0 (pa_cons (pv 0) (pa_cons pe_str pa_nil))) (pa_cons pe_int pa_nil)))))
 (pss_cons (ps_par (i := 3) (j := 4) (by rfl) sc_law_asked_right.nd rfl rfl (by decide) rfl rfl (pa_cons (pe_smeth (pe_glob (v := .ref _) rfl T.g_Expression rfl) T.sm_Expression_asked (ok_Expression_asked T) (hr.mono (by decide)) T.b_Expression_asked pass0 (pa_cons (pv 2) (pa_cons (pv 1) pa_nil))) (pa_cons (pe_op op_addStr (pe_op op_addStr (pv 2) pe_str) (pv 1)) pa_nil)) (by rfl))
 (pss_cons (ps_set (i := 5) sc_law_asked_right.nd rfl (Or.inl rfl) (pe_meth0 (pv 3) T.cl_Expression T.m_Expression_signs (ok_Expression_signs T) (hr.mono (by decide)) T.b_Expression_signs .nil pass0))
 (pss_cons (ps_if (PW.pt (pw_or (pt_cmpR op_ne (pe_callTy (call_strO (own_Expression_str T) (hr.mono (by decide))) (by rfl) T.n_str (by decide +kernel) (pa_cons (pv 3) pa_nil)) (pv 4) (nomark _)) (pw_or (pt_not (pt_val (pe_call (ok_law_number T) (hr.mono (by decide)) rfl T.g_law_number T.F_law_number.kp T.b_law_number .nil pass0 (pa_cons (pe_callB (call_lenO (own_Expression_len T) (hr.mono (by decide))) (by rfl) T.n_len (by decide +kernel) (pa_cons (pv 3) pa_nil)) (pa_cons pe_int pa_nil))))) (pw_or (pt_cmpR (op_neD hr.units) (pv 5) (pe_lst (pa_cons (pv 1) pa_nil)) (nomark _)) (pw_or1 (pt_cmpR (op_neD hr.units) (pe_meth0 (pv 3) T.cl_Expression T.m_Expression_leaves (ok_Expression_leaves T) (hr.mono (by decide)) T.b_Expression_leaves .nil pass0) (pe_lst pa_nil) (nomark _)))))))
 (pss_one (ps_ret pe_bl))
 pss_nil)
 (pss_cons (ps_expr (pe_bm0 PySem.F.plainAttrs_list PySem.F.slot_list_clear PySem.F.type_list_clear mt_clear (pv 5)))
 (pss_cons (ps_if (PW.pt (pw_or (pt_not (pt_val (pe_callB call_isi (by rfl) T.n_isinstance (by decide +kernel) (pa_cons (pv 5) (pa_cons (pe_bltn (v := .ty "list") (by rfl) T.n_list (by decide +kernel) rfl) pa_nil))))) (pw_or (pt_cmpR (op_neD hr.units) (pe_meth0 (pv 3) T.cl_Expression T.m_Expression_signs (ok_Expression_signs T) (hr.mono (by decide)) T.b_Expression_signs .nil pass0) (pe_lst (pa_cons (pv 1) pa_nil)) (nomark _)) (pw_or1 (pt_cmpR (op_neO (own_Expression_eq T) T.ne_Expression (hr.mono (by decide))) (pe_smethK (pe_glob (v := .ref _) rfl T.g_Expression rfl) T.sm_Expression_asked (ok_Expression_asked T) (hr.mono (by decide)) T.kb_Expression_asked_word_name pass0 (pk_cons (pv 1) (pk_cons (pv 2) pk_nil))) (pv 3) (nomark _))))))
 (pss_one (ps_ret pe_bl))
 pss_nil)
 (pss_cons (ps_set (i := 6) sc_law_asked_right.nd rfl (Or.inl rfl) (pe_cmethK (pe_glob (v := .ref _) rfl T.g_Expression rfl) T.cr_Expression T.cm_Expression_read (ok_Expression_read T) hr T.kb_Expression_read_text pass0 (pk_cons (pv 4) pk_nil)))
 (pss_one (ps_ret (pe_and (pe_cmpR (op_eqO (own_Expression_eq T) (hr.mono (by decide))) (pv 6) (pv 3) (nomark _)) (pe_and (pe_cmpR op_eq (pe_callTy (call_strO (own_Expression_str T) (hr.mono (by decide))) (by rfl) T.n_str (by decide +kernel) (pa_cons (pv 6) pa_nil)) (pv 4) (nomark _)) (pe_and (pe_cmpR (op_eqD hr.units) (pe_meth0 (pv 6) T.cl_Expression T.m_Expression_signs (ok_Expression_signs T) (hr.mono (by decide)) T.b_Expression_signs .nil pass0) (pe_lst (pa_cons (pv 1) pa_nil)) (nomark _)) (pe_one (pe_cmpR op_eq (pe_callB (call_lenO (own_Expression_len T) (hr.mono (by decide))) (by rfl) T.n_len (by decide +kernel) (pa_cons (pv 6) pa_nil)) pe_int (nomark _)))))))))))))))))), ?_⟩
    try simp only [cxK, smalls_eq, capitals_eq, dot_tx, esses_tx, neg_tx, pos_tx, abs_tx, invert_tx]
    lcg_off
    refine ⟨b, d, m, smalls, rfl, hb, by decide, by decide, fun c d1 m1 hc => ?_⟩
    lcg_off
    refine ⟨b, d1, m1, 7, [c], rfl, upd_same, by decide, by decide, by simp, fun l2 d2 m2 hl2 hn2 => ?_⟩
    rw [upd_upd]
    have hl : ∀ x ∈ [c] ++ l2, x ∈ smalls := fun x hx => by
      rcases List.mem_cons.mp hx with e | e
      · subst e; exact hc
      · exact hl2 x e
    have l0 : [c] ++ l2 ≠ [] := by simp
    have l8 : ([c] ++ l2).length ≤ 8 := by simp; omega
    have hkeep : ∀ x o, x ≠ b → H x = some o → upd H b (.lst [.int d2, .int m2]) x = some o := fun x o hx e => upd_old hx e
    have hbag : upd H b (.lst [.int d2, .int m2]) b = some (.lst [.int d2, .int m2]) := upd_same
    generalize [c] ++ l2 = l at hl l0 l8
    generalize upd H b (.lst [.int d2, .int m2]) = H1 at hkeep hbag
    refine rd_cut (fun σ' H' => ∃ wd : List Nat, Same H1 H' ∧ (∀ x ∈ wd, x ∈ smalls) ∧ wd ≠ [] ∧ wd.length ≤ 8 ∧ wd ∉ unaries ∧ σ' = [some (.ref b), some (.str (tx wd)), none, none, none, none, none]) ?_ ?_
    · lcg_off
      intro L hL
      refine rd_inSeqL (sqL_of upd_same) rfl (flat_tx (ls := unaries)) ?_
      have e : inV (.str (tx l)) (unaries.map fun l => V.str (tx l)) = decide (l ∈ unaries) := inV_tx
      show ∃ k, V.bl (if false = true then !inV (.str (tx l)) (unaries.map fun l => V.str (tx l)) else inV (.str (tx l)) (unaries.map fun l => V.str (tx l))) = V.bl k ∧ _
      rw [e, if_neg Bool.false_ne_true]
      lcg_off
      refine ifD (fun c5 => ?_) (fun c5 => ?_)
      · obtain ⟨m1', m2', m3'⟩ := more_s c5
        lcg_off
        exact ⟨l ++ [115], same_new hL, m3', by simp, m2', m1', rfl⟩
      · lcg_off
        exact ⟨l, same_new hL, hl, l0, l8, c5, rfl⟩
    · rintro σ' H' ⟨wd, s0, hw, w0, w8, wu, rfl⟩
      have okw := smalls_okT hw
      have hbag' := s0 _ _ hbag
      lcg_off
      refine ⟨b, d2, m2, capitals, rfl, hbag', by decide, by decide, fun c2 d3 m3 hc2 => ?_⟩
      lcg_off
      refine ⟨b, d3, m3, 7, [c2], rfl, upd_same, by decide, by decide, by simp, fun l4 d4 m4 hl4 hn4 => ?_⟩
      rw [upd_upd]
      have hn : IsClass ([c2] ++ l4) := ⟨c2, l4, rfl, hc2, hl4, by omega⟩
      have n8 : ([c2] ++ l4).length ≤ 8 := by simp; omega
      have hkeep2 : ∀ x o, x ≠ b → H x = some o → upd H' b (.lst [.int d4, .int m4]) x = some o := fun x o hx e => upd_old hx (s0 _ _ (hkeep x o hx e))
      have hbag2 : upd H' b (.lst [.int d4, .int m4]) b = some (.lst [.int d4, .int m4]) := upd_same
      generalize [c2] ++ l4 = n at hn n8
      generalize upd H' b (.lst [.int d4, .int m4]) = H2 at hkeep2 hbag2
      have okn := hn.okT
      lcg_off
      refine ⟨n, wd, rfl, by omega, by omega, fun p1 H3 s3 f3 E1 => ?_⟩
      lcg_off
      have el : n ++ [46] ++ wd = n ++ 46 :: wd := by simp
      rw [el]
      refine rd_par2 ?_
      lcg_off
      refine methE E1 (by decide +kernel) (by decide +kernel) ?_
      lcg_off
      refine ⟨p1, _, _, rfl, E1, by simp, fun q H4 hq s4 h4 => ?_⟩
      have h4 : H4 q = some (.lst [.str (tx wd)]) := h4
      lcg_off
      refine ask_str (E1.mono s4) ?_
      lcg_off
      refine ifF (by simp) ?_
      lcg_off
      refine ask_len (E1.mono s4) (by simp) fun H5 s5 => ?_
      lcg_off
      refine ⟨_, _, rfl, ?_⟩
      lcg_off
      refine ifF (by rw [nSteps_asked]; decide) ?_
      lcg_off
      intro L0 hL0
      refine rd_neD (one_word (by array_mem_dec)) (one_word upd_same) (word_shaped okw) (word_shaped okw) ?_
      rw [word_eqv okw]
      lcg_off
      refine iteF ?_
      lcg_off
      refine methE (E1.mono (by kpt_turns)) (by decide +kernel) (by decide +kernel) ?_
      lcg_off
      refine ⟨p1, _, _, rfl, E1.mono (by kpt_turns), by simp, (fun r hr => by rw [List.mem_singleton.mp hr]; exact ⟨okw, okn⟩), fun q3 xs3 H6 hq3 s6 h6 hP6 hnew6 => ?_⟩
      have hP6 : PairsAt H6 xs3 [] := hP6
      obtain rfl : xs3 = [] := List.eq_nil_of_length_eq_zero hP6.1
      lcg_off
      intro L1 hL1
      refine rd_neD (d := .list []) (e := .list []) (.lst (sqL_of (upd_new hL1 h6)) .nil) (.lst (sqL_of upd_same) .nil) (by decide +kernel) (by decide +kernel) ?_
      lcg_off
      refine ifF (by decide +kernel) ?_
      have h4b : upd H6 L1 (.lst []) q = some (.lst [.str (tx wd)]) := by array_mem_dec
      lcg_off
      refine rd_clear h4b ?_
      have s7 : Same H3 (upd (upd H6 L1 (.lst [])) q (.lst [])) := by kpt_turns
      have h7 : upd (upd H6 L1 (.lst [])) q (.lst []) q = some (.lst []) := upd_same
      generalize upd (upd H6 L1 (.lst [])) q (.lst []) = H7 at s7 h7
      lcg_off
      kas_types
      lcg_off
      refine ifF rfl ?_
      lcg_off
      refine methE (E1.mono (by kpt_turns)) (by decide +kernel) (by decide +kernel) ?_
      lcg_off
      refine ⟨p1, _, _, rfl, E1.mono (by kpt_turns), by simp, fun q4 H8 hq4 s8 h8 => ?_⟩
      have h8 : H8 q4 = some (.lst [.str (tx wd)]) := h8
      lcg_off
      intro L2' hL2
      refine rd_neD (one_word (by array_mem_dec)) (one_word upd_same) (word_shaped okw) (word_shaped okw) ?_
      rw [word_eqv okw]
      have s9 : Same H3 (upd H8 L2' (.lst [.str (tx wd)])) := by kpt_turns
      generalize upd H8 L2' (.lst [.str (tx wd)]) = H9 at s9
      lcg_off
      refine iteF ?_
      lcg_off
      refine ⟨n, wd, rfl, by omega, by omega, fun p2 Ha sa fa E2 => ?_⟩
      lcg_off
      refine ask_ne E2 (E1.mono (by kpt_turns)) ?_
      lcg_off
      refine ifF (by simp) ?_
      lcg_off
      refine ⟨n ++ 46 :: wd, _, rfl, by simp; omega, open_asked hn hw w0 w8 wu, rfl, rfl, by simp, fun p3 Hb sb fb E3 => ?_⟩
      lcg_off
      refine ask_eq E3 (E1.mono (by kpt_turns)) ?_
      lcg_off
      refine ifT (by simp) ?_
      lcg_off
      refine ask_str E3 ?_
      lcg_off
      refine ifT (by simp) ?_
      lcg_off
      refine methE E3 (by decide +kernel) (by decide +kernel) ?_
      lcg_off
      refine ⟨p3, _, _, rfl, E3, by simp, fun q5 Hc hq5 sc h5 => ?_⟩
      have h5 : Hc q5 = some (.lst [.str (tx wd)]) := h5
      lcg_off
      intro L3 hL3
      refine rd_eqD (one_word (by array_mem_dec)) (one_word upd_same) (word_shaped okw) (word_shaped okw) ?_
      rw [word_eqv okw]
      have sd : Same Hb (upd Hc L3 (.lst [.str (tx wd)])) := by kpt_turns
      have sd3 : Same H3 (upd Hc L3 (.lst [.str (tx wd)])) := by kpt_turns
      generalize upd Hc L3 (.lst [.str (tx wd)]) = Hd at sd sd3
      lcg_off
      refine iteT ?_
      lcg_off
      refine ask_len (E3.mono sd) (by simp) fun He se => ?_
      lcg_off
      have e0 : decide (V.int ((nSteps [Row.asked wd n] : Nat) : Int) = V.int 1) = true := by rw [nSteps_asked]; decide
      rw [e0]
      have sf : Same H2 He := s3.trans (sd3.trans se)
      exact k He d4 m4 (fun x o hx e => sf _ _ (hkeep2 x o hx e)) (sf _ _ hbag2)
end
end K31

namespace K31
open PySem L2 Hk
local macro_rules | `(tactic| array_mem_dec) => `(tactic| first
  | assumption | exact upd_same
  | (apply upd_new; assumption; array_mem_dec)
  | (apply upd_old; tlg_ne; array_mem_dec)
  | (apply same_at; assumption; array_mem_dec))
local macro_rules | `(tactic| tlg_ne) => `(tactic| first
  | assumption | (apply Ne.symm; assumption)
  | (apply ne_new; assumption; array_mem_dec) | (apply ne_new'; assumption; array_mem_dec)
  | (apply ne_of; assumption; assumption; (intro z; cases z; done)))
local macro_rules | `(tactic| decreasing_trivial_pre_omega) => `(tactic| first
  | assumption | (apply sqL_of; array_mem_dec) | (apply sqT_of; array_mem_dec)
  | (apply Same.seq; assumption; decreasing_trivial_pre_omega) | (apply sqT_same; assumption; decreasing_trivial_pre_omega)
  | (apply sqL_new; assumption; decreasing_trivial_pre_omega) | (apply sqL_upd; tlg_ne; decreasing_trivial_pre_omega))
local macro_rules | `(tactic| kpt_turns) => `(tactic| first
  | assumption | exact Same.refl _ | (apply same_ext; kpt_turns; assumption) | (apply same_mut; kpt_turns; keq_hits) | (apply same_step; assumption; kpt_turns))
local macro_rules | `(tactic| keq_hits) => `(tactic| first | assumption | (apply same_none; assumption; keq_hits))
local macro_rules | `(tactic| sizeOf_list_dec) => `(tactic| first | (with_reducible assumption) | (with_reducible_and_instances omega) | (with_unfolding_all decide))
local macro_rules | `(tactic| array_get_dec) => `(tactic| first | (with_reducible assumption) | (apply sz_of; (with_unfolding_all simp); done) | (apply sz_of; omega) | (apply sz_lt; (with_unfolding_all simp); done) | (apply sz_lt; omega))
local macro_rules | `(tactic| keq_rows) => `(tactic| with_reducible first
  | refine rd_asgN ?_ | refine rd_seq ?_ | refine rd_asg ?_ | refine rd_gname ?_ | refine rd_op ?_ | refine rd_var (by with_unfolding_all rfl) ?_ | refine rd_c ?_ | refine rd_I0 ?_
  | refine rd_cons ?_ | refine rd_nil ?_ | refine rd_cb ?_ | refine rd_test ?_ | refine rd_bl ?_ | refine rd_fld ?_ | refine rd_drop ?_ | refine rd_ret ?_ | refine rd_retN ?_ | refine rd_next ?_
  | refine rd_ifS ?_ | refine rd_un ?_ | refine rd_B ?_ | refine rd_and ?_ | refine rd_or ?_ | refine rd_not ?_ | refine rd_andV ?_ | refine rd_orV ?_ | refine rd_notV ?_ | refine rd_if ?_
  | refine rd_int ?_ | refine rd_abs ?_ | refine rd_max ?_ | refine rd_min ?_ | refine rd_strS ?_ | refine rd_U ?_
  | refine rd_eqTx ?_ | refine rd_neTx ?_ | refine rd_inTx ?_ | refine rd_notInTx ?_ | refine rd_fmt ?_ | refine rd_fmtT (by omega) ?_ | refine rd_jsC ?_ | refine rd_jsN ?_ | refine rd_JsK (by (try simp); omega) ?_ | refine rd_addT (by (try simp); omega) ?_ | refine rd_lenTx (by omega) ?_
  | refine rd_eq (by with_unfolding_all rfl) ?_ | refine rd_ne (by with_unfolding_all rfl) ?_ | refine rd_isNone ?_ | refine rd_notNone ?_
  | refine rd_ixL (by decreasing_trivial_pre_omega) (by with_unfolding_all rfl) ?_ | refine rd_ixT (by decreasing_trivial_pre_omega) (by with_unfolding_all rfl) ?_
  | refine rd_lenL (by decreasing_trivial_pre_omega) ?_ | refine rd_lenT (by decreasing_trivial_pre_omega) ?_
  | refine rd_mod (by sizeOf_list_dec) ?_ | refine rd_div (by sizeOf_list_dec) (by sizeOf_list_dec) ?_ | refine rd_mulR (by sizeOf_list_dec) (by sizeOf_list_dec) ?_ | refine rd_mulL (by sizeOf_list_dec) (by sizeOf_list_dec) ?_ | refine rd_pow (by sizeOf_list_dec) ?_
  | refine rd_setL (by array_mem_dec) (by with_unfolding_all rfl) ?_
  | refine rd_slL (by decreasing_trivial_pre_omega) ?_ | refine rd_inSign ?_ | refine rd_notInSign ?_ | refine rd_tup ?_ | refine rd_lst ?_ | refine rd_sl ?_ | refine rd_noPart ?_ | refine rd_part ?_ | refine rd_isInt ?_
  | refine rd_gsub ?_ | refine rd_gcons ?_ | refine rd_gnil ?_ | refine rd_call ?_ | refine rd_meth ?_ | refine rd_make ?_ | refine rd_smeth ?_ | refine rd_isC ?_ | refine rd_smethK ?_ | refine rd_cmeth ?_ | refine rd_cmethK ?_
  | refine rd_bm ?_ | refine rd_bm0 ?_ | refine rd_bmL (by array_mem_dec) ?_ | refine rd_bm0L (by array_mem_dec) ?_ | refine rd_sfld ?_ | refine rd_aug ?_ | refine rd_rAdd ?_ | refine rd_brk ?_ | refine rd_cont ?_
  | refine rd_for ?_ | refine rd_iList ?_ | refine rd_IList (by decreasing_trivial_pre_omega) ?_ | refine rd_iTup ?_ | refine rd_ITup (by decreasing_trivial_pre_omega) ?_ | refine rd_iEnum ?_ | refine rd_IEnum (by decreasing_trivial_pre_omega) ?_ | refine rd_iRng1 ?_ | refine rd_IRng1 (by sizeOf_list_dec) (by sizeOf_list_dec) ?_
  | refine rd_new (by array_get_dec) ?_ | refine rd_lenS (by array_get_dec) ?_ | refine rd_addS (by array_get_dec) ?_ | refine rd_slS (by array_get_dec) ?_ | refine rd_lc ?_ | refine rd_yes ?_ | refine rd_gtup (by decreasing_trivial_pre_omega) (by with_unfolding_all rfl) ?_ | refine rd_makeL (by with_unfolding_all rfl) ?_)
local macro_rules | `(tactic| kas_types) => `(tactic| with_reducible first | refine rd_isi_int_int ?_ | refine rd_isi_int_bool ?_ | refine rd_isi_int_str ?_ | refine rd_isi_int_list ?_ | refine rd_isi_int_tuple ?_ | refine rd_isi_bool_int ?_ | refine rd_isi_bool_bool ?_ | refine rd_isi_bool_str ?_ | refine rd_isi_bool_list ?_ | refine rd_isi_bool_tuple ?_ | refine rd_isi_str_int ?_ | refine rd_isi_str_bool ?_ | refine rd_isi_str_str ?_ | refine rd_isi_str_list ?_ | refine rd_isi_str_tuple ?_ | refine rd_isi_list_int (by array_mem_dec) ?_ | refine rd_isi_list_bool (by array_mem_dec) ?_ | refine rd_isi_list_str (by array_mem_dec) ?_ | refine rd_isi_list_list (by array_mem_dec) ?_ | refine rd_isi_list_tuple (by array_mem_dec) ?_ | refine rd_isi_tuple_int (by array_mem_dec) ?_ | refine rd_isi_tuple_bool (by array_mem_dec) ?_ | refine rd_isi_tuple_str (by array_mem_dec) ?_ | refine rd_isi_tuple_list (by array_mem_dec) ?_ | refine rd_isi_tuple_tuple (by array_mem_dec) ?_ | refine rd_isi_NoneType_int ?_ | refine rd_isi_NoneType_bool ?_ | refine rd_isi_NoneType_str ?_ | refine rd_isi_NoneType_list ?_ | refine rd_isi_NoneType_tuple ?_)
local macro_rules | `(tactic| lcg_src) => `(tactic| repeat keq_rows)

local macro_rules | `(tactic| lcg_off) => `(tactic| repeat (first | keq_rows | (with_reducible refine rd_parA ?_)))
section
variable {P : Program} {w : World} {K : PySem.W.Frag} {mg : Str → Option Value} {base : Heap} {a : Ad} {H : Hp}
def sp_law (K : PySem.W.Frag) : Sp := fun vs H Q _ => ∃ (sc : Addr) (ns : List Int), vs = [.ref sc] ∧ SqL K H sc (ns.map V.int) ∧ ns.length ≤ 63 ∧ ∀ H', Q (.bl true) H'
theorem sqL_but {K : PySem.W.Frag} {H H' : Hp} {sc b : Addr} {xs : List V} (h : SqL K H sc xs) (hb : H b = none) (e : ∀ c o, c ≠ b → H c = some o → H' c = some o) : SqL K H' sc xs := by
  rcases h with (h | ⟨o, h⟩) | h
  · exact .inl (.inl (e _ _ (ne_of_none h hb) h))
  · exact .inl (.inr ⟨o, e _ _ (ne_of_none h hb) h⟩)
  · exact .inr h
theorem ok_law (T : Txt K mg a) : FnOk P w K mg base CX0 11 a.f_law a.fd_law ["_law_script"]  (sp_law K) := by
  refine T.F_law.ok sc_law (fun vs H Q E h => ?_) (fun cdv A outer s H vs Q E hr h => ?_)
  · obtain ⟨_, _, rfl, _⟩ := h
    rfl
  · obtain ⟨sc, ns, rfl, hS, hl, k⟩ := h
    refine ⟨_, ((pss_cons (ps_for PassesOwn.never rfl (pi_range1 rfl T.n_range (pa_cons (pe_callB (call_maxI rfl) (by rfl) T.n_max (by decide +kernel) (pa_cons pe_int (pa_cons (pe_callB (call_minI rfl) (by rfl) T.n_min (by decide +kernel) (pa_cons pe_int (pa_cons (pe_callB call_lenSeq (by rfl) T.n_len (by decide +kernel) (pa_cons (pv 0) pa_nil)) pa_nil))) pa_nil))) pa_nil)) (pg_name (i := 1) sc_law.nd rfl (Or.inl rfl))
 (pss_cons (ps_set (i := 2) sc_law.nd rfl (Or.inl rfl) (pe_call (ok_law_bag T) (hr.mono (by decide)) rfl T.g_law_bag T.F_law_bag.kp T.b_law_bag .nil pass0 (pa_cons (pv 0) (pa_cons (pv 1) pa_nil))))
 (pss_one (ps_for PassesOwn.never rfl (pi_range1 rfl T.n_range (pa_cons pe_int pa_nil)) (pg_name (i := 3) sc_law.nd rfl (Or.inl rfl))
 (pss_one (ps_if (PW.pt (pw_or (pt_not (pt_val (pe_call (ok_law_leaf_right T) hr rfl T.g_law_leaf_right T.F_law_leaf_right.kp T.b_law_leaf_right .nil pass0 (pa_cons (pv 2) pa_nil)))) (pw_or1 (pt_not (pt_val (pe_call (ok_law_asked_right T) hr rfl T.g_law_asked_right T.F_law_asked_right.kp T.b_law_asked_right .nil pass0 (pa_cons (pv 2) pa_nil)))))))
 (pss_one (ps_ret pe_bl))
 pss_nil))))))
 (pss_one (ps_ret pe_bl)))), ?_⟩
    try simp only [cxK]
    lcg_off
    have hr5 : ∀ z : Int, z = (if (if (ns.map V.int).length < (5 : Int) then ((ns.map V.int).length : Int) else 5) > 1 then (if (ns.map V.int).length < (5 : Int) then ((ns.map V.int).length : Int) else 5) else 1) → 1 ≤ z ∧ z ≤ 5 := fun z hz => by
      split at hz <;> (try split at hz) <;> omega
    obtain ⟨hz1, hz5⟩ := hr5 _ rfl
    generalize (if (if (ns.map V.int).length < (5 : Int) then ((ns.map V.int).length : Int) else 5) > 1 then (if (ns.map V.int).length < (5 : Int) then ((ns.map V.int).length : Int) else 5) else 1) = z at hz1 hz5
    refine fk_range (fun i σ H2 => Same H H2 ∧ ∃ (u v y : Option V), σ = [some (.ref sc), u, v, y]) ⟨Same.refl _, _, _, _, rfl⟩ ?_ ?_
    · rintro i σ H2 hi ⟨s2, u, v, y, rfl⟩
      lcg_off
      refine ⟨sc, ns, _, rfl, s2.seq hS, by omega, by omega, hl, fun b d m H3 s3 hb hb3 => ?_⟩
      lcg_off
      refine fk_range (fun j σ H4 => Same H2 H4 ∧ ∃ (d m : Int) (v y : Option V), H4 b = some (.lst [.int d, .int m]) ∧ σ = [some (.ref sc), some (.int (i : Nat)), some (.ref b), y]) ⟨s3, d, m, none, _, hb3, rfl⟩ ?_ ?_
      · rintro j σ H4 hj ⟨s4, d, m, v, y, hb4, rfl⟩
        lcg_off
        refine ⟨b, d, m, rfl, hb4, fun H5 d5 m5 k5 hb5 => ?_⟩
        lcg_off
        refine ifF rfl ?_
        lcg_off
        refine ⟨b, d5, m5, rfl, hb5, fun H6 d6 m6 k6 hb6 => ?_⟩
        lcg_off
        refine ifF rfl ?_
        lcg_off
        exact ⟨fun x o e => k6 x o (ne_of_none e hb) (k5 x o (ne_of_none e hb) (s4 _ _ e)), d6, m6, none, _, hb6, rfl⟩
      · rintro σ H4 ⟨s4, d, m, v, y, hb4, rfl⟩
        exact ⟨s2.trans s4, _, _, _, rfl⟩
    · rintro σ H2 ⟨s2, u, v, y, rfl⟩
      lcg_off
      exact k H2
end
end K31

section
open PySem PySem.W PyProof.Rows
set_option maxHeartbeats 0 in
open_top hd for PySem.Challenge.rw_heirsback_k31_leaves_and_requests
end
namespace K31
open PySem L2 Hk
theorem all_mk {l : PySem.W.OpenLaw} {w : World} {K : PySem.W.Frag} {h : Heap} {mg : Str → Option Value} {fa : Addr} (X : K.In h) (G : h.Ns mainGlobals mg) (hfa : mg "law" = some (.ref fa))
    {f_Expression_init : Addr} {od_Expression_init an_Expression_init : Option Addr} {sl_Expression_init : Array (Option Value)} {oc_Expression_init kV_Expression_init dc_Expression_init pm_Expression_init cd_Expression_init ct_Expression_init : Value}
    {f_Expression_leaf : Addr} {od_Expression_leaf an_Expression_leaf : Option Addr} {sl_Expression_leaf : Array (Option Value)} {oc_Expression_leaf kV_Expression_leaf dc_Expression_leaf pm_Expression_leaf cd_Expression_leaf ct_Expression_leaf : Value}
    {p_Expression_leaf : Addr} {o_Expression_leaf : Value} {r_Expression_leaf : List Value}
    {f_Expression_asked : Addr} {od_Expression_asked an_Expression_asked : Option Addr} {sl_Expression_asked : Array (Option Value)} {oc_Expression_asked kV_Expression_asked dc_Expression_asked pm_Expression_asked cd_Expression_asked ct_Expression_asked : Value}
    {p_Expression_asked : Addr} {o_Expression_asked : Value} {r_Expression_asked : List Value}
    {f_Expression_read : Addr} {od_Expression_read an_Expression_read : Option Addr} {sl_Expression_read : Array (Option Value)} {oc_Expression_read kV_Expression_read dc_Expression_read pm_Expression_read cd_Expression_read ct_Expression_read : Value}
    {p_Expression_read : Addr} {r_Expression_read : List Value}
    {f_Expression_signs : Addr} {od_Expression_signs an_Expression_signs : Option Addr} {sl_Expression_signs : Array (Option Value)} {oc_Expression_signs kV_Expression_signs dc_Expression_signs pm_Expression_signs cd_Expression_signs ct_Expression_signs : Value}
    {f_Expression_leaves : Addr} {od_Expression_leaves an_Expression_leaves : Option Addr} {sl_Expression_leaves : Array (Option Value)} {oc_Expression_leaves kV_Expression_leaves dc_Expression_leaves pm_Expression_leaves cd_Expression_leaves ct_Expression_leaves : Value}
    {f_Expression_len : Addr} {od_Expression_len an_Expression_len : Option Addr} {sl_Expression_len : Array (Option Value)} {oc_Expression_len kV_Expression_len dc_Expression_len pm_Expression_len cd_Expression_len ct_Expression_len : Value}
    {f_Expression_str : Addr} {od_Expression_str an_Expression_str : Option Addr} {sl_Expression_str : Array (Option Value)} {oc_Expression_str kV_Expression_str dc_Expression_str pm_Expression_str cd_Expression_str ct_Expression_str : Value}
    {f_Expression_eq : Addr} {od_Expression_eq an_Expression_eq : Option Addr} {sl_Expression_eq : Array (Option Value)} {oc_Expression_eq kV_Expression_eq dc_Expression_eq pm_Expression_eq cd_Expression_eq ct_Expression_eq : Value}
    {f_count_steps : Addr} {od_count_steps an_count_steps : Option Addr} {sl_count_steps : Array (Option Value)} {oc_count_steps kV_count_steps dc_count_steps pm_count_steps cd_count_steps ct_count_steps : Value}
    {f_Reader_init : Addr} {od_Reader_init an_Reader_init : Option Addr} {sl_Reader_init : Array (Option Value)} {oc_Reader_init kV_Reader_init dc_Reader_init pm_Reader_init cd_Reader_init ct_Reader_init : Value}
    {f_Reader_whole : Addr} {od_Reader_whole an_Reader_whole : Option Addr} {sl_Reader_whole : Array (Option Value)} {oc_Reader_whole kV_Reader_whole dc_Reader_whole pm_Reader_whole cd_Reader_whole ct_Reader_whole : Value}
    {f_Reader_here : Addr} {od_Reader_here an_Reader_here : Option Addr} {sl_Reader_here : Array (Option Value)} {oc_Reader_here kV_Reader_here dc_Reader_here pm_Reader_here cd_Reader_here ct_Reader_here : Value}
    {f_Reader_skip : Addr} {od_Reader_skip an_Reader_skip : Option Addr} {sl_Reader_skip : Array (Option Value)} {oc_Reader_skip kV_Reader_skip dc_Reader_skip pm_Reader_skip cd_Reader_skip ct_Reader_skip : Value}
    {f_Reader_letters : Addr} {od_Reader_letters an_Reader_letters : Option Addr} {sl_Reader_letters : Array (Option Value)} {oc_Reader_letters kV_Reader_letters dc_Reader_letters pm_Reader_letters cd_Reader_letters ct_Reader_letters : Value}
    {f_Reader_is_opened : Addr} {od_Reader_is_opened an_Reader_is_opened : Option Addr} {sl_Reader_is_opened : Array (Option Value)} {oc_Reader_is_opened kV_Reader_is_opened dc_Reader_is_opened pm_Reader_is_opened cd_Reader_is_opened ct_Reader_is_opened : Value}
    {f_Reader_class_name : Addr} {od_Reader_class_name an_Reader_class_name : Option Addr} {sl_Reader_class_name : Array (Option Value)} {oc_Reader_class_name kV_Reader_class_name dc_Reader_class_name pm_Reader_class_name cd_Reader_class_name ct_Reader_class_name : Value}
    {f_Reader_read_request : Addr} {od_Reader_read_request an_Reader_read_request : Option Addr} {sl_Reader_read_request : Array (Option Value)} {oc_Reader_read_request kV_Reader_read_request dc_Reader_read_request pm_Reader_read_request cd_Reader_read_request ct_Reader_read_request : Value}
    {f_Reader_close : Addr} {od_Reader_close an_Reader_close : Option Addr} {sl_Reader_close : Array (Option Value)} {oc_Reader_close kV_Reader_close dc_Reader_close pm_Reader_close cd_Reader_close ct_Reader_close : Value}
    {f_law_bag : Addr} {od_law_bag an_law_bag : Option Addr} {sl_law_bag : Array (Option Value)} {oc_law_bag kV_law_bag dc_law_bag pm_law_bag cd_law_bag ct_law_bag : Value}
    {f_law_take : Addr} {od_law_take an_law_take : Option Addr} {sl_law_take : Array (Option Value)} {oc_law_take kV_law_take dc_law_take pm_law_take cd_law_take ct_law_take : Value}
    {f_law_of : Addr} {od_law_of an_law_of : Option Addr} {sl_law_of : Array (Option Value)} {oc_law_of kV_law_of dc_law_of pm_law_of cd_law_of ct_law_of : Value}
    {f_law_letters : Addr} {od_law_letters an_law_letters : Option Addr} {sl_law_letters : Array (Option Value)} {oc_law_letters kV_law_letters dc_law_letters pm_law_letters cd_law_letters ct_law_letters : Value}
    {f_law_number : Addr} {od_law_number an_law_number : Option Addr} {sl_law_number : Array (Option Value)} {oc_law_number kV_law_number dc_law_number pm_law_number cd_law_number ct_law_number : Value}
    {f_law_leaf_right : Addr} {od_law_leaf_right an_law_leaf_right : Option Addr} {sl_law_leaf_right : Array (Option Value)} {oc_law_leaf_right kV_law_leaf_right dc_law_leaf_right pm_law_leaf_right cd_law_leaf_right ct_law_leaf_right : Value}
    {f_law_asked_right : Addr} {od_law_asked_right an_law_asked_right : Option Addr} {sl_law_asked_right : Array (Option Value)} {oc_law_asked_right kV_law_asked_right dc_law_asked_right pm_law_asked_right cd_law_asked_right ct_law_asked_right : Value}
    {f_law : Addr} {od_law an_law : Option Addr} {sl_law : Array (Option Value)} {oc_law kV_law dc_law pm_law cd_law ct_law : Value}
    {C_Expression : Addr}
    {C_Reader : Addr}
    {t_MOST : Tok}
    {t_SMALL : Tok}
    {t_CAPITAL : Tok}
    {t_LONGEST : Tok}
    {t_LEAF : Tok}
    {t_ASKED : Tok}
    {ad_UNARY_SIGNS : Addr} {od_UNARY_SIGNS : Option Addr} {n_UNARY_SIGNS : Nat} {sl_UNARY_SIGNS : Array (Option Value)} {t0_UNARY_SIGNS : Tok} {t1_UNARY_SIGNS : Tok} {t2_UNARY_SIGNS : Tok} {t3_UNARY_SIGNS : Tok}
    {t_DONE : Tok}
    (a_C_Expression : PySem.W.nsIn K mainGlobals "Expression" = some (some (.ref C_Expression)))
    (a_C_Reader : PySem.W.nsIn K mainGlobals "Reader" = some (some (.ref C_Reader)))
    (a_Expression_init : PySem.W.findIn K (.ref C_Expression) "__init__" = some (some (.ref f_Expression_init)))
    (i_Expression_init : PySem.W.isFn K (.ref f_Expression_init) = true)
    (l_Expression_init : K.lookup f_Expression_init = some ⟨oc_Expression_init, od_Expression_init, .func (PySem.W.fnOf "__init__" "Expression.__init__" (defArgs s_Expression_init) (defBody s_Expression_init) (defScope s_Expression_init) .none kV_Expression_init dc_Expression_init pm_Expression_init an_Expression_init cd_Expression_init ct_Expression_init), sl_Expression_init⟩)
    (c_Expression_init : PySem.W.codeIn K cd_Expression_init "Expression.__init__" = true)
    (k_Expression_init : PySem.W.keepIn K (.ref f_Expression_init) = true)
    (a_Expression_leaf : PySem.W.findCls K (.ref C_Expression) (.type "type") "leaf" = some (.get (.builtin "staticmethod.__get__") (.ref p_Expression_leaf) o_Expression_leaf (.ref C_Expression)))
    (rc_Expression_leaf : PySem.W.recIn K p_Expression_leaf "staticmethod" = some (.ref f_Expression_leaf :: r_Expression_leaf))
    (l_Expression_leaf : K.lookup f_Expression_leaf = some ⟨oc_Expression_leaf, od_Expression_leaf, .func (PySem.W.fnOf "leaf" "Expression.leaf" (defArgs s_Expression_leaf) (defBody s_Expression_leaf) (defScope s_Expression_leaf) .none kV_Expression_leaf dc_Expression_leaf pm_Expression_leaf an_Expression_leaf cd_Expression_leaf ct_Expression_leaf), sl_Expression_leaf⟩)
    (c_Expression_leaf : PySem.W.codeIn K cd_Expression_leaf "Expression.leaf" = true)
    (k_Expression_leaf : PySem.W.keepIn K (.ref f_Expression_leaf) = true)
    (a_Expression_asked : PySem.W.findCls K (.ref C_Expression) (.type "type") "asked" = some (.get (.builtin "staticmethod.__get__") (.ref p_Expression_asked) o_Expression_asked (.ref C_Expression)))
    (rc_Expression_asked : PySem.W.recIn K p_Expression_asked "staticmethod" = some (.ref f_Expression_asked :: r_Expression_asked))
    (l_Expression_asked : K.lookup f_Expression_asked = some ⟨oc_Expression_asked, od_Expression_asked, .func (PySem.W.fnOf "asked" "Expression.asked" (defArgs s_Expression_asked) (defBody s_Expression_asked) (defScope s_Expression_asked) .none kV_Expression_asked dc_Expression_asked pm_Expression_asked an_Expression_asked cd_Expression_asked ct_Expression_asked), sl_Expression_asked⟩)
    (c_Expression_asked : PySem.W.codeIn K cd_Expression_asked "Expression.asked" = true)
    (k_Expression_asked : PySem.W.keepIn K (.ref f_Expression_asked) = true)
    (a_Expression_read : PySem.W.findCls K (.ref C_Expression) (.type "type") "read" = some (.get (.builtin "classmethod.__get__") (.ref p_Expression_read) .none (.ref C_Expression)))
    (rc_Expression_read : PySem.W.recIn K p_Expression_read "classmethod" = some (.ref f_Expression_read :: r_Expression_read))
    (fi_Expression_read : PySem.W.fnIn K f_Expression_read = true)
    (l_Expression_read : K.lookup f_Expression_read = some ⟨oc_Expression_read, od_Expression_read, .func (PySem.W.fnOf "read" "Expression.read" (defArgs s_Expression_read) (defBody s_Expression_read) (defScope s_Expression_read) .none kV_Expression_read dc_Expression_read pm_Expression_read an_Expression_read cd_Expression_read ct_Expression_read), sl_Expression_read⟩)
    (c_Expression_read : PySem.W.codeIn K cd_Expression_read "Expression.read" = true)
    (k_Expression_read : PySem.W.keepIn K (.ref f_Expression_read) = true)
    (a_Expression_signs : PySem.W.findIn K (.ref C_Expression) "signs" = some (some (.ref f_Expression_signs)))
    (i_Expression_signs : PySem.W.isFn K (.ref f_Expression_signs) = true)
    (l_Expression_signs : K.lookup f_Expression_signs = some ⟨oc_Expression_signs, od_Expression_signs, .func (PySem.W.fnOf "signs" "Expression.signs" (defArgs s_Expression_signs) (defBody s_Expression_signs) (defScope s_Expression_signs) .none kV_Expression_signs dc_Expression_signs pm_Expression_signs an_Expression_signs cd_Expression_signs ct_Expression_signs), sl_Expression_signs⟩)
    (c_Expression_signs : PySem.W.codeIn K cd_Expression_signs "Expression.signs" = true)
    (k_Expression_signs : PySem.W.keepIn K (.ref f_Expression_signs) = true)
    (a_Expression_leaves : PySem.W.findIn K (.ref C_Expression) "leaves" = some (some (.ref f_Expression_leaves)))
    (i_Expression_leaves : PySem.W.isFn K (.ref f_Expression_leaves) = true)
    (l_Expression_leaves : K.lookup f_Expression_leaves = some ⟨oc_Expression_leaves, od_Expression_leaves, .func (PySem.W.fnOf "leaves" "Expression.leaves" (defArgs s_Expression_leaves) (defBody s_Expression_leaves) (defScope s_Expression_leaves) .none kV_Expression_leaves dc_Expression_leaves pm_Expression_leaves an_Expression_leaves cd_Expression_leaves ct_Expression_leaves), sl_Expression_leaves⟩)
    (c_Expression_leaves : PySem.W.codeIn K cd_Expression_leaves "Expression.leaves" = true)
    (k_Expression_leaves : PySem.W.keepIn K (.ref f_Expression_leaves) = true)
    (a_Expression_len : PySem.W.findIn K (.ref C_Expression) "__len__" = some (some (.ref f_Expression_len)))
    (i_Expression_len : PySem.W.isFn K (.ref f_Expression_len) = true)
    (l_Expression_len : K.lookup f_Expression_len = some ⟨oc_Expression_len, od_Expression_len, .func (PySem.W.fnOf "__len__" "Expression.__len__" (defArgs s_Expression_len) (defBody s_Expression_len) (defScope s_Expression_len) .none kV_Expression_len dc_Expression_len pm_Expression_len an_Expression_len cd_Expression_len ct_Expression_len), sl_Expression_len⟩)
    (c_Expression_len : PySem.W.codeIn K cd_Expression_len "Expression.__len__" = true)
    (k_Expression_len : PySem.W.keepIn K (.ref f_Expression_len) = true)
    (a_Expression_str : PySem.W.findIn K (.ref C_Expression) "__str__" = some (some (.ref f_Expression_str)))
    (i_Expression_str : PySem.W.isFn K (.ref f_Expression_str) = true)
    (l_Expression_str : K.lookup f_Expression_str = some ⟨oc_Expression_str, od_Expression_str, .func (PySem.W.fnOf "__str__" "Expression.__str__" (defArgs s_Expression_str) (defBody s_Expression_str) (defScope s_Expression_str) .none kV_Expression_str dc_Expression_str pm_Expression_str an_Expression_str cd_Expression_str ct_Expression_str), sl_Expression_str⟩)
    (c_Expression_str : PySem.W.codeIn K cd_Expression_str "Expression.__str__" = true)
    (k_Expression_str : PySem.W.keepIn K (.ref f_Expression_str) = true)
    (a_Expression_eq : PySem.W.findIn K (.ref C_Expression) "__eq__" = some (some (.ref f_Expression_eq)))
    (i_Expression_eq : PySem.W.isFn K (.ref f_Expression_eq) = true)
    (l_Expression_eq : K.lookup f_Expression_eq = some ⟨oc_Expression_eq, od_Expression_eq, .func (PySem.W.fnOf "__eq__" "Expression.__eq__" (defArgs s_Expression_eq) (defBody s_Expression_eq) (defScope s_Expression_eq) .none kV_Expression_eq dc_Expression_eq pm_Expression_eq an_Expression_eq cd_Expression_eq ct_Expression_eq), sl_Expression_eq⟩)
    (c_Expression_eq : PySem.W.codeIn K cd_Expression_eq "Expression.__eq__" = true)
    (k_Expression_eq : PySem.W.keepIn K (.ref f_Expression_eq) = true)
    (a_count_steps : PySem.W.nsIn K mainGlobals "count_steps" = some (some (.ref f_count_steps)))
    (l_count_steps : K.lookup f_count_steps = some ⟨oc_count_steps, od_count_steps, .func (PySem.W.fnOf "count_steps" "count_steps" (defArgs s_count_steps) (defBody s_count_steps) (defScope s_count_steps) .none kV_count_steps dc_count_steps pm_count_steps an_count_steps cd_count_steps ct_count_steps), sl_count_steps⟩)
    (c_count_steps : PySem.W.codeIn K cd_count_steps "count_steps" = true)
    (k_count_steps : PySem.W.keepIn K (.ref f_count_steps) = true)
    (a_Reader_init : PySem.W.findIn K (.ref C_Reader) "__init__" = some (some (.ref f_Reader_init)))
    (i_Reader_init : PySem.W.isFn K (.ref f_Reader_init) = true)
    (l_Reader_init : K.lookup f_Reader_init = some ⟨oc_Reader_init, od_Reader_init, .func (PySem.W.fnOf "__init__" "Reader.__init__" (defArgs s_Reader_init) (defBody s_Reader_init) (defScope s_Reader_init) .none kV_Reader_init dc_Reader_init pm_Reader_init an_Reader_init cd_Reader_init ct_Reader_init), sl_Reader_init⟩)
    (c_Reader_init : PySem.W.codeIn K cd_Reader_init "Reader.__init__" = true)
    (k_Reader_init : PySem.W.keepIn K (.ref f_Reader_init) = true)
    (a_Reader_whole : PySem.W.findIn K (.ref C_Reader) "whole" = some (some (.ref f_Reader_whole)))
    (i_Reader_whole : PySem.W.isFn K (.ref f_Reader_whole) = true)
    (l_Reader_whole : K.lookup f_Reader_whole = some ⟨oc_Reader_whole, od_Reader_whole, .func (PySem.W.fnOf "whole" "Reader.whole" (defArgs s_Reader_whole) (defBody s_Reader_whole) (defScope s_Reader_whole) .none kV_Reader_whole dc_Reader_whole pm_Reader_whole an_Reader_whole cd_Reader_whole ct_Reader_whole), sl_Reader_whole⟩)
    (c_Reader_whole : PySem.W.codeIn K cd_Reader_whole "Reader.whole" = true)
    (k_Reader_whole : PySem.W.keepIn K (.ref f_Reader_whole) = true)
    (a_Reader_here : PySem.W.findIn K (.ref C_Reader) "here" = some (some (.ref f_Reader_here)))
    (i_Reader_here : PySem.W.isFn K (.ref f_Reader_here) = true)
    (l_Reader_here : K.lookup f_Reader_here = some ⟨oc_Reader_here, od_Reader_here, .func (PySem.W.fnOf "here" "Reader.here" (defArgs s_Reader_here) (defBody s_Reader_here) (defScope s_Reader_here) .none kV_Reader_here dc_Reader_here pm_Reader_here an_Reader_here cd_Reader_here ct_Reader_here), sl_Reader_here⟩)
    (c_Reader_here : PySem.W.codeIn K cd_Reader_here "Reader.here" = true)
    (k_Reader_here : PySem.W.keepIn K (.ref f_Reader_here) = true)
    (a_Reader_skip : PySem.W.findIn K (.ref C_Reader) "skip" = some (some (.ref f_Reader_skip)))
    (i_Reader_skip : PySem.W.isFn K (.ref f_Reader_skip) = true)
    (l_Reader_skip : K.lookup f_Reader_skip = some ⟨oc_Reader_skip, od_Reader_skip, .func (PySem.W.fnOf "skip" "Reader.skip" (defArgs s_Reader_skip) (defBody s_Reader_skip) (defScope s_Reader_skip) .none kV_Reader_skip dc_Reader_skip pm_Reader_skip an_Reader_skip cd_Reader_skip ct_Reader_skip), sl_Reader_skip⟩)
    (c_Reader_skip : PySem.W.codeIn K cd_Reader_skip "Reader.skip" = true)
    (k_Reader_skip : PySem.W.keepIn K (.ref f_Reader_skip) = true)
    (a_Reader_letters : PySem.W.findIn K (.ref C_Reader) "letters" = some (some (.ref f_Reader_letters)))
    (i_Reader_letters : PySem.W.isFn K (.ref f_Reader_letters) = true)
    (l_Reader_letters : K.lookup f_Reader_letters = some ⟨oc_Reader_letters, od_Reader_letters, .func (PySem.W.fnOf "letters" "Reader.letters" (defArgs s_Reader_letters) (defBody s_Reader_letters) (defScope s_Reader_letters) .none kV_Reader_letters dc_Reader_letters pm_Reader_letters an_Reader_letters cd_Reader_letters ct_Reader_letters), sl_Reader_letters⟩)
    (c_Reader_letters : PySem.W.codeIn K cd_Reader_letters "Reader.letters" = true)
    (k_Reader_letters : PySem.W.keepIn K (.ref f_Reader_letters) = true)
    (a_Reader_is_opened : PySem.W.findIn K (.ref C_Reader) "is_opened" = some (some (.ref f_Reader_is_opened)))
    (i_Reader_is_opened : PySem.W.isFn K (.ref f_Reader_is_opened) = true)
    (l_Reader_is_opened : K.lookup f_Reader_is_opened = some ⟨oc_Reader_is_opened, od_Reader_is_opened, .func (PySem.W.fnOf "is_opened" "Reader.is_opened" (defArgs s_Reader_is_opened) (defBody s_Reader_is_opened) (defScope s_Reader_is_opened) .none kV_Reader_is_opened dc_Reader_is_opened pm_Reader_is_opened an_Reader_is_opened cd_Reader_is_opened ct_Reader_is_opened), sl_Reader_is_opened⟩)
    (c_Reader_is_opened : PySem.W.codeIn K cd_Reader_is_opened "Reader.is_opened" = true)
    (k_Reader_is_opened : PySem.W.keepIn K (.ref f_Reader_is_opened) = true)
    (a_Reader_class_name : PySem.W.findIn K (.ref C_Reader) "class_name" = some (some (.ref f_Reader_class_name)))
    (i_Reader_class_name : PySem.W.isFn K (.ref f_Reader_class_name) = true)
    (l_Reader_class_name : K.lookup f_Reader_class_name = some ⟨oc_Reader_class_name, od_Reader_class_name, .func (PySem.W.fnOf "class_name" "Reader.class_name" (defArgs s_Reader_class_name) (defBody s_Reader_class_name) (defScope s_Reader_class_name) .none kV_Reader_class_name dc_Reader_class_name pm_Reader_class_name an_Reader_class_name cd_Reader_class_name ct_Reader_class_name), sl_Reader_class_name⟩)
    (c_Reader_class_name : PySem.W.codeIn K cd_Reader_class_name "Reader.class_name" = true)
    (k_Reader_class_name : PySem.W.keepIn K (.ref f_Reader_class_name) = true)
    (a_Reader_read_request : PySem.W.findIn K (.ref C_Reader) "read_request" = some (some (.ref f_Reader_read_request)))
    (i_Reader_read_request : PySem.W.isFn K (.ref f_Reader_read_request) = true)
    (l_Reader_read_request : K.lookup f_Reader_read_request = some ⟨oc_Reader_read_request, od_Reader_read_request, .func (PySem.W.fnOf "read_request" "Reader.read_request" (defArgs s_Reader_read_request) (defBody s_Reader_read_request) (defScope s_Reader_read_request) .none kV_Reader_read_request dc_Reader_read_request pm_Reader_read_request an_Reader_read_request cd_Reader_read_request ct_Reader_read_request), sl_Reader_read_request⟩)
    (c_Reader_read_request : PySem.W.codeIn K cd_Reader_read_request "Reader.read_request" = true)
    (k_Reader_read_request : PySem.W.keepIn K (.ref f_Reader_read_request) = true)
    (a_Reader_close : PySem.W.findIn K (.ref C_Reader) "close" = some (some (.ref f_Reader_close)))
    (i_Reader_close : PySem.W.isFn K (.ref f_Reader_close) = true)
    (l_Reader_close : K.lookup f_Reader_close = some ⟨oc_Reader_close, od_Reader_close, .func (PySem.W.fnOf "close" "Reader.close" (defArgs s_Reader_close) (defBody s_Reader_close) (defScope s_Reader_close) .none kV_Reader_close dc_Reader_close pm_Reader_close an_Reader_close cd_Reader_close ct_Reader_close), sl_Reader_close⟩)
    (c_Reader_close : PySem.W.codeIn K cd_Reader_close "Reader.close" = true)
    (k_Reader_close : PySem.W.keepIn K (.ref f_Reader_close) = true)
    (a_law_bag : PySem.W.nsIn K mainGlobals "_law_bag" = some (some (.ref f_law_bag)))
    (l_law_bag : K.lookup f_law_bag = some ⟨oc_law_bag, od_law_bag, .func (PySem.W.fnOf "_law_bag" "_law_bag" (defArgs s_law_bag) (defBody s_law_bag) (defScope s_law_bag) .none kV_law_bag dc_law_bag pm_law_bag an_law_bag cd_law_bag ct_law_bag), sl_law_bag⟩)
    (c_law_bag : PySem.W.codeIn K cd_law_bag "_law_bag" = true)
    (k_law_bag : PySem.W.keepIn K (.ref f_law_bag) = true)
    (a_law_take : PySem.W.nsIn K mainGlobals "_law_take" = some (some (.ref f_law_take)))
    (l_law_take : K.lookup f_law_take = some ⟨oc_law_take, od_law_take, .func (PySem.W.fnOf "_law_take" "_law_take" (defArgs s_law_take) (defBody s_law_take) (defScope s_law_take) .none kV_law_take dc_law_take pm_law_take an_law_take cd_law_take ct_law_take), sl_law_take⟩)
    (c_law_take : PySem.W.codeIn K cd_law_take "_law_take" = true)
    (k_law_take : PySem.W.keepIn K (.ref f_law_take) = true)
    (a_law_of : PySem.W.nsIn K mainGlobals "_law_of" = some (some (.ref f_law_of)))
    (l_law_of : K.lookup f_law_of = some ⟨oc_law_of, od_law_of, .func (PySem.W.fnOf "_law_of" "_law_of" (defArgs s_law_of) (defBody s_law_of) (defScope s_law_of) .none kV_law_of dc_law_of pm_law_of an_law_of cd_law_of ct_law_of), sl_law_of⟩)
    (c_law_of : PySem.W.codeIn K cd_law_of "_law_of" = true)
    (k_law_of : PySem.W.keepIn K (.ref f_law_of) = true)
    (a_law_letters : PySem.W.nsIn K mainGlobals "_law_letters" = some (some (.ref f_law_letters)))
    (l_law_letters : K.lookup f_law_letters = some ⟨oc_law_letters, od_law_letters, .func (PySem.W.fnOf "_law_letters" "_law_letters" (defArgs s_law_letters) (defBody s_law_letters) (defScope s_law_letters) .none kV_law_letters dc_law_letters pm_law_letters an_law_letters cd_law_letters ct_law_letters), sl_law_letters⟩)
    (c_law_letters : PySem.W.codeIn K cd_law_letters "_law_letters" = true)
    (k_law_letters : PySem.W.keepIn K (.ref f_law_letters) = true)
    (a_law_number : PySem.W.nsIn K mainGlobals "_law_number" = some (some (.ref f_law_number)))
    (l_law_number : K.lookup f_law_number = some ⟨oc_law_number, od_law_number, .func (PySem.W.fnOf "_law_number" "_law_number" (defArgs s_law_number) (defBody s_law_number) (defScope s_law_number) .none kV_law_number dc_law_number pm_law_number an_law_number cd_law_number ct_law_number), sl_law_number⟩)
    (c_law_number : PySem.W.codeIn K cd_law_number "_law_number" = true)
    (k_law_number : PySem.W.keepIn K (.ref f_law_number) = true)
    (a_law_leaf_right : PySem.W.nsIn K mainGlobals "_law_leaf_right" = some (some (.ref f_law_leaf_right)))
    (l_law_leaf_right : K.lookup f_law_leaf_right = some ⟨oc_law_leaf_right, od_law_leaf_right, .func (PySem.W.fnOf "_law_leaf_right" "_law_leaf_right" (defArgs s_law_leaf_right) (defBody s_law_leaf_right) (defScope s_law_leaf_right) .none kV_law_leaf_right dc_law_leaf_right pm_law_leaf_right an_law_leaf_right cd_law_leaf_right ct_law_leaf_right), sl_law_leaf_right⟩)
    (c_law_leaf_right : PySem.W.codeIn K cd_law_leaf_right "_law_leaf_right" = true)
    (k_law_leaf_right : PySem.W.keepIn K (.ref f_law_leaf_right) = true)
    (a_law_asked_right : PySem.W.nsIn K mainGlobals "_law_asked_right" = some (some (.ref f_law_asked_right)))
    (l_law_asked_right : K.lookup f_law_asked_right = some ⟨oc_law_asked_right, od_law_asked_right, .func (PySem.W.fnOf "_law_asked_right" "_law_asked_right" (defArgs s_law_asked_right) (defBody s_law_asked_right) (defScope s_law_asked_right) .none kV_law_asked_right dc_law_asked_right pm_law_asked_right an_law_asked_right cd_law_asked_right ct_law_asked_right), sl_law_asked_right⟩)
    (c_law_asked_right : PySem.W.codeIn K cd_law_asked_right "_law_asked_right" = true)
    (k_law_asked_right : PySem.W.keepIn K (.ref f_law_asked_right) = true)
    (a_law : PySem.W.nsIn K mainGlobals "law" = some (some (.ref f_law)))
    (l_law : K.lookup f_law = some ⟨oc_law, od_law, .func (PySem.W.fnOf "law" "law" (defArgs s_law) (defBody s_law) (defScope s_law) .none kV_law dc_law pm_law an_law cd_law ct_law), sl_law⟩)
    (c_law : PySem.W.codeIn K cd_law "law" = true)
    (k_law : PySem.W.keepIn K (.ref f_law) = true)
    (pg_Expression : PySem.W.plainGet K C_Expression Str.empty = true)
    (hd_Expression : PySem.W.hasDictIn K C_Expression = true)
    (po_Expression : PySem.W.plainOver K C_Expression = true)
    (sa_Expression : PySem.W.findIn K (.ref C_Expression) "__setattr__" = some (some (.builtin "object.__setattr__")))
    (mk_Expression : PySem.W.makesIn K C_Expression = true)
    (kc_Expression : PySem.W.keepIn K (.ref C_Expression) = true)
    (rd_Expression : PySem.W.readsIn K C_Expression (.type "type") = true)
    (ga_Expression : PySem.W.specialIn K (.ref C_Expression) "__getattribute__" = some (some (.builtin "type.__getattribute__")))
    (mo_Expression : PySem.W.mroIn K C_Expression (.type "object") = some true)
    (hc_Expression : PySem.W.findIn K (.ref C_Expression) "__class__" = some (some (.builtin "object.__class__")))
    (ic_Expression : PySem.W.isClsIn K C_Expression = true)
    (ty_Expression : PySem.W.typeIn K (.ref C_Expression) = some (.type "type"))
    (ne_Expression : PySem.W.findIn K (.ref C_Expression) "__ne__" = some (some (.builtin "object.__ne__")))
    (no_Expression_text : PySem.W.findIn K (.ref C_Expression) "text" = some none)
    (no_Expression_program : PySem.W.findIn K (.ref C_Expression) "program" = some none)
    (pg_Reader : PySem.W.plainGet K C_Reader Str.empty = true)
    (hd_Reader : PySem.W.hasDictIn K C_Reader = true)
    (po_Reader : PySem.W.plainOver K C_Reader = true)
    (sa_Reader : PySem.W.findIn K (.ref C_Reader) "__setattr__" = some (some (.builtin "object.__setattr__")))
    (mk_Reader : PySem.W.makesIn K C_Reader = true)
    (kc_Reader : PySem.W.keepIn K (.ref C_Reader) = true)
    (rd_Reader : PySem.W.readsIn K C_Reader (.type "type") = true)
    (ga_Reader : PySem.W.specialIn K (.ref C_Reader) "__getattribute__" = some (some (.builtin "type.__getattribute__")))
    (mo_Reader : PySem.W.mroIn K C_Reader (.type "object") = some true)
    (hc_Reader : PySem.W.findIn K (.ref C_Reader) "__class__" = some (some (.builtin "object.__class__")))
    (ic_Reader : PySem.W.isClsIn K C_Reader = true)
    (ty_Reader : PySem.W.typeIn K (.ref C_Reader) = some (.type "type"))
    (no_Reader_text : PySem.W.findIn K (.ref C_Reader) "text" = some none)
    (no_Reader_at : PySem.W.findIn K (.ref C_Reader) "at" = some none)
    (no_Reader_nested : PySem.W.findIn K (.ref C_Reader) "nested" = some none)
    (no_Reader_rows : PySem.W.findIn K (.ref C_Reader) "rows" = some none)
    (hnC : PySem.W.specialIn K (.builtin "object.__class__") "__get__" = some (some (.builtin "getset_descriptor.__get__")))
    (htC : PySem.W.takesIn K (.builtin "object.__class__") = some true)
    (a_MOST : PySem.W.nsIn K mainGlobals "MOST" = some (some (.int 100 t_MOST)))
    (a_SMALL : PySem.W.nsIn K mainGlobals "SMALL" = some (some (.str "abcdefghijklmnopqrstuvwxyz" t_SMALL)))
    (a_CAPITAL : PySem.W.nsIn K mainGlobals "CAPITAL" = some (some (.str "ABCDEFGHIJKLMNOPQRSTUVWXYZ" t_CAPITAL)))
    (a_LONGEST : PySem.W.nsIn K mainGlobals "LONGEST" = some (some (.int 8 t_LONGEST)))
    (a_LEAF : PySem.W.nsIn K mainGlobals "LEAF" = some (some (.str "leaf" t_LEAF)))
    (a_ASKED : PySem.W.nsIn K mainGlobals "ASKED" = some (some (.str "asked" t_ASKED)))
    (a_UNARY_SIGNS : PySem.W.nsIn K mainGlobals "UNARY_SIGNS" = some (some (.ref ad_UNARY_SIGNS)))
    (lk_UNARY_SIGNS : K.lookup ad_UNARY_SIGNS = some ⟨.type "tuple", od_UNARY_SIGNS, .seq #[.str "neg" t0_UNARY_SIGNS, .str "pos" t1_UNARY_SIGNS, .str "abs" t2_UNARY_SIGNS, .str "invert" t3_UNARY_SIGNS] n_UNARY_SIGNS, sl_UNARY_SIGNS⟩)
    (a_DONE : PySem.W.nsIn K mainGlobals "DONE" = some (some (.str "done" t_DONE)))
    (n_abs : PySem.W.nsIn K mainGlobals "abs" = some none)
    (n_bool : PySem.W.nsIn K mainGlobals "bool" = some none)
    (n_enumerate : PySem.W.nsIn K mainGlobals "enumerate" = some none)
    (n_int : PySem.W.nsIn K mainGlobals "int" = some none)
    (n_isinstance : PySem.W.nsIn K mainGlobals "isinstance" = some none)
    (n_len : PySem.W.nsIn K mainGlobals "len" = some none)
    (n_list : PySem.W.nsIn K mainGlobals "list" = some none)
    (n_max : PySem.W.nsIn K mainGlobals "max" = some none)
    (n_min : PySem.W.nsIn K mainGlobals "min" = some none)
    (n_range : PySem.W.nsIn K mainGlobals "range" = some none)
    (n_str : PySem.W.nsIn K mainGlobals "str" = some none)
    (n_tuple : PySem.W.nsIn K mainGlobals "tuple" = some none) :
    ∃ fd : FuncData, (∀ (s : Shared) (v : Value), BindsTo s fd ⟨[v], []⟩ [("_law_script", v)]) ∧ ∀ base : Heap, K.In base → base.Ns mainGlobals mg → FnOk l.prog w K mg base CX0 11 fa fd ["_law_script"] (sp_law K) := by
  have e := hfa.symm.trans (PySem.W.mg_of X G a_law)
  cases e
  have T : Txt K mg ⟨f_Expression_init, (PySem.W.fnOf "__init__" "Expression.__init__" (defArgs s_Expression_init) (defBody s_Expression_init) (defScope s_Expression_init) .none kV_Expression_init dc_Expression_init pm_Expression_init an_Expression_init cd_Expression_init ct_Expression_init), f_Expression_leaf, (PySem.W.fnOf "leaf" "Expression.leaf" (defArgs s_Expression_leaf) (defBody s_Expression_leaf) (defScope s_Expression_leaf) .none kV_Expression_leaf dc_Expression_leaf pm_Expression_leaf an_Expression_leaf cd_Expression_leaf ct_Expression_leaf), f_Expression_asked, (PySem.W.fnOf "asked" "Expression.asked" (defArgs s_Expression_asked) (defBody s_Expression_asked) (defScope s_Expression_asked) .none kV_Expression_asked dc_Expression_asked pm_Expression_asked an_Expression_asked cd_Expression_asked ct_Expression_asked), f_Expression_read, (PySem.W.fnOf "read" "Expression.read" (defArgs s_Expression_read) (defBody s_Expression_read) (defScope s_Expression_read) .none kV_Expression_read dc_Expression_read pm_Expression_read an_Expression_read cd_Expression_read ct_Expression_read), p_Expression_read, f_Expression_signs, (PySem.W.fnOf "signs" "Expression.signs" (defArgs s_Expression_signs) (defBody s_Expression_signs) (defScope s_Expression_signs) .none kV_Expression_signs dc_Expression_signs pm_Expression_signs an_Expression_signs cd_Expression_signs ct_Expression_signs), f_Expression_leaves, (PySem.W.fnOf "leaves" "Expression.leaves" (defArgs s_Expression_leaves) (defBody s_Expression_leaves) (defScope s_Expression_leaves) .none kV_Expression_leaves dc_Expression_leaves pm_Expression_leaves an_Expression_leaves cd_Expression_leaves ct_Expression_leaves), f_Expression_len, (PySem.W.fnOf "__len__" "Expression.__len__" (defArgs s_Expression_len) (defBody s_Expression_len) (defScope s_Expression_len) .none kV_Expression_len dc_Expression_len pm_Expression_len an_Expression_len cd_Expression_len ct_Expression_len), f_Expression_str, (PySem.W.fnOf "__str__" "Expression.__str__" (defArgs s_Expression_str) (defBody s_Expression_str) (defScope s_Expression_str) .none kV_Expression_str dc_Expression_str pm_Expression_str an_Expression_str cd_Expression_str ct_Expression_str), f_Expression_eq, (PySem.W.fnOf "__eq__" "Expression.__eq__" (defArgs s_Expression_eq) (defBody s_Expression_eq) (defScope s_Expression_eq) .none kV_Expression_eq dc_Expression_eq pm_Expression_eq an_Expression_eq cd_Expression_eq ct_Expression_eq), f_count_steps, (PySem.W.fnOf "count_steps" "count_steps" (defArgs s_count_steps) (defBody s_count_steps) (defScope s_count_steps) .none kV_count_steps dc_count_steps pm_count_steps an_count_steps cd_count_steps ct_count_steps), f_Reader_init, (PySem.W.fnOf "__init__" "Reader.__init__" (defArgs s_Reader_init) (defBody s_Reader_init) (defScope s_Reader_init) .none kV_Reader_init dc_Reader_init pm_Reader_init an_Reader_init cd_Reader_init ct_Reader_init), f_Reader_whole, (PySem.W.fnOf "whole" "Reader.whole" (defArgs s_Reader_whole) (defBody s_Reader_whole) (defScope s_Reader_whole) .none kV_Reader_whole dc_Reader_whole pm_Reader_whole an_Reader_whole cd_Reader_whole ct_Reader_whole), f_Reader_here, (PySem.W.fnOf "here" "Reader.here" (defArgs s_Reader_here) (defBody s_Reader_here) (defScope s_Reader_here) .none kV_Reader_here dc_Reader_here pm_Reader_here an_Reader_here cd_Reader_here ct_Reader_here), f_Reader_skip, (PySem.W.fnOf "skip" "Reader.skip" (defArgs s_Reader_skip) (defBody s_Reader_skip) (defScope s_Reader_skip) .none kV_Reader_skip dc_Reader_skip pm_Reader_skip an_Reader_skip cd_Reader_skip ct_Reader_skip), f_Reader_letters, (PySem.W.fnOf "letters" "Reader.letters" (defArgs s_Reader_letters) (defBody s_Reader_letters) (defScope s_Reader_letters) .none kV_Reader_letters dc_Reader_letters pm_Reader_letters an_Reader_letters cd_Reader_letters ct_Reader_letters), f_Reader_is_opened, (PySem.W.fnOf "is_opened" "Reader.is_opened" (defArgs s_Reader_is_opened) (defBody s_Reader_is_opened) (defScope s_Reader_is_opened) .none kV_Reader_is_opened dc_Reader_is_opened pm_Reader_is_opened an_Reader_is_opened cd_Reader_is_opened ct_Reader_is_opened), f_Reader_class_name, (PySem.W.fnOf "class_name" "Reader.class_name" (defArgs s_Reader_class_name) (defBody s_Reader_class_name) (defScope s_Reader_class_name) .none kV_Reader_class_name dc_Reader_class_name pm_Reader_class_name an_Reader_class_name cd_Reader_class_name ct_Reader_class_name), f_Reader_read_request, (PySem.W.fnOf "read_request" "Reader.read_request" (defArgs s_Reader_read_request) (defBody s_Reader_read_request) (defScope s_Reader_read_request) .none kV_Reader_read_request dc_Reader_read_request pm_Reader_read_request an_Reader_read_request cd_Reader_read_request ct_Reader_read_request), f_Reader_close, (PySem.W.fnOf "close" "Reader.close" (defArgs s_Reader_close) (defBody s_Reader_close) (defScope s_Reader_close) .none kV_Reader_close dc_Reader_close pm_Reader_close an_Reader_close cd_Reader_close ct_Reader_close), f_law_bag, (PySem.W.fnOf "_law_bag" "_law_bag" (defArgs s_law_bag) (defBody s_law_bag) (defScope s_law_bag) .none kV_law_bag dc_law_bag pm_law_bag an_law_bag cd_law_bag ct_law_bag), f_law_take, (PySem.W.fnOf "_law_take" "_law_take" (defArgs s_law_take) (defBody s_law_take) (defScope s_law_take) .none kV_law_take dc_law_take pm_law_take an_law_take cd_law_take ct_law_take), f_law_of, (PySem.W.fnOf "_law_of" "_law_of" (defArgs s_law_of) (defBody s_law_of) (defScope s_law_of) .none kV_law_of dc_law_of pm_law_of an_law_of cd_law_of ct_law_of), f_law_letters, (PySem.W.fnOf "_law_letters" "_law_letters" (defArgs s_law_letters) (defBody s_law_letters) (defScope s_law_letters) .none kV_law_letters dc_law_letters pm_law_letters an_law_letters cd_law_letters ct_law_letters), f_law_number, (PySem.W.fnOf "_law_number" "_law_number" (defArgs s_law_number) (defBody s_law_number) (defScope s_law_number) .none kV_law_number dc_law_number pm_law_number an_law_number cd_law_number ct_law_number), f_law_leaf_right, (PySem.W.fnOf "_law_leaf_right" "_law_leaf_right" (defArgs s_law_leaf_right) (defBody s_law_leaf_right) (defScope s_law_leaf_right) .none kV_law_leaf_right dc_law_leaf_right pm_law_leaf_right an_law_leaf_right cd_law_leaf_right ct_law_leaf_right), f_law_asked_right, (PySem.W.fnOf "_law_asked_right" "_law_asked_right" (defArgs s_law_asked_right) (defBody s_law_asked_right) (defScope s_law_asked_right) .none kV_law_asked_right dc_law_asked_right pm_law_asked_right an_law_asked_right cd_law_asked_right ct_law_asked_right), fa, (PySem.W.fnOf "law" "law" (defArgs s_law) (defBody s_law) (defScope s_law) .none kV_law dc_law pm_law an_law cd_law ct_law), C_Expression, C_Reader, t_MOST, t_SMALL, t_CAPITAL, t_LONGEST, t_LEAF, t_ASKED, ad_UNARY_SIGNS, t_DONE⟩ := {
    F_Expression_init := fun_mk (st := s_Expression_init) l_Expression_init c_Expression_init k_Expression_init,
    b_Expression_init := (fun_mk (st := s_Expression_init) l_Expression_init c_Expression_init k_Expression_init).binds (ps := ["self", "text", "program"]) fun _ _ _ _ _ _ us hl => match us, hl with | [_, _, _], _ => rfl,
    m_Expression_init := ⟨a_Expression_init, i_Expression_init, k_Expression_init⟩,
    F_Expression_leaf := fun_mk (st := s_Expression_leaf) l_Expression_leaf c_Expression_leaf k_Expression_leaf,
    b_Expression_leaf := (fun_mk (st := s_Expression_leaf) l_Expression_leaf c_Expression_leaf k_Expression_leaf).binds (ps := ["label", "name"]) fun _ _ _ _ _ _ us hl => match us, hl with | [_, _], _ => rfl,
    sm_Expression_leaf := ⟨⟨rd_Expression, ga_Expression⟩, ⟨_, _, a_Expression_leaf, _, rc_Expression_leaf⟩, k_Expression_leaf⟩,
    kb_Expression_leaf_name_label := kperm_0_10_kb (fun_mk (st := s_Expression_leaf) l_Expression_leaf c_Expression_leaf k_Expression_leaf) (fun _ _ _ _ _ _ us ws => rfl),
    F_Expression_asked := fun_mk (st := s_Expression_asked) l_Expression_asked c_Expression_asked k_Expression_asked,
    b_Expression_asked := (fun_mk (st := s_Expression_asked) l_Expression_asked c_Expression_asked k_Expression_asked).binds (ps := ["name", "word"]) fun _ _ _ _ _ _ us hl => match us, hl with | [_, _], _ => rfl,
    sm_Expression_asked := ⟨⟨rd_Expression, ga_Expression⟩, ⟨_, _, a_Expression_asked, _, rc_Expression_asked⟩, k_Expression_asked⟩,
    kb_Expression_asked_word_name := kperm_0_10_kb (fun_mk (st := s_Expression_asked) l_Expression_asked c_Expression_asked k_Expression_asked) (fun _ _ _ _ _ _ us ws => rfl),
    F_Expression_read := fun_mk (st := s_Expression_read) l_Expression_read c_Expression_read k_Expression_read,
    b_Expression_read := (fun_mk (st := s_Expression_read) l_Expression_read c_Expression_read k_Expression_read).binds (ps := ["cls", "text"]) fun _ _ _ _ _ _ us hl => match us, hl with | [_, _], _ => rfl,
    cm_Expression_read := ⟨a_Expression_read, ⟨_, rc_Expression_read⟩, fi_Expression_read⟩,
    kb_Expression_read_text := kperm_1_0_kb (fun_mk (st := s_Expression_read) l_Expression_read c_Expression_read k_Expression_read) (fun _ _ _ _ _ _ us ws => rfl),
    F_Expression_signs := fun_mk (st := s_Expression_signs) l_Expression_signs c_Expression_signs k_Expression_signs,
    b_Expression_signs := (fun_mk (st := s_Expression_signs) l_Expression_signs c_Expression_signs k_Expression_signs).binds (ps := ["self"]) fun _ _ _ _ _ _ us hl => match us, hl with | [_], _ => rfl,
    m_Expression_signs := ⟨a_Expression_signs, i_Expression_signs, k_Expression_signs⟩,
    F_Expression_leaves := fun_mk (st := s_Expression_leaves) l_Expression_leaves c_Expression_leaves k_Expression_leaves,
    b_Expression_leaves := (fun_mk (st := s_Expression_leaves) l_Expression_leaves c_Expression_leaves k_Expression_leaves).binds (ps := ["self"]) fun _ _ _ _ _ _ us hl => match us, hl with | [_], _ => rfl,
    m_Expression_leaves := ⟨a_Expression_leaves, i_Expression_leaves, k_Expression_leaves⟩,
    F_Expression_len := fun_mk (st := s_Expression_len) l_Expression_len c_Expression_len k_Expression_len,
    b_Expression_len := (fun_mk (st := s_Expression_len) l_Expression_len c_Expression_len k_Expression_len).binds (ps := ["self"]) fun _ _ _ _ _ _ us hl => match us, hl with | [_], _ => rfl,
    m_Expression_len := ⟨a_Expression_len, i_Expression_len, k_Expression_len⟩,
    F_Expression_str := fun_mk (st := s_Expression_str) l_Expression_str c_Expression_str k_Expression_str,
    b_Expression_str := (fun_mk (st := s_Expression_str) l_Expression_str c_Expression_str k_Expression_str).binds (ps := ["self"]) fun _ _ _ _ _ _ us hl => match us, hl with | [_], _ => rfl,
    m_Expression_str := ⟨a_Expression_str, i_Expression_str, k_Expression_str⟩,
    F_Expression_eq := fun_mk (st := s_Expression_eq) l_Expression_eq c_Expression_eq k_Expression_eq,
    b_Expression_eq := (fun_mk (st := s_Expression_eq) l_Expression_eq c_Expression_eq k_Expression_eq).binds (ps := ["self", "other"]) fun _ _ _ _ _ _ us hl => match us, hl with | [_, _], _ => rfl,
    m_Expression_eq := ⟨a_Expression_eq, i_Expression_eq, k_Expression_eq⟩,
    F_count_steps := fun_mk (st := s_count_steps) l_count_steps c_count_steps k_count_steps,
    b_count_steps := (fun_mk (st := s_count_steps) l_count_steps c_count_steps k_count_steps).binds (ps := ["program"]) fun _ _ _ _ _ _ us hl => match us, hl with | [_], _ => rfl,
    g_count_steps := PySem.W.mg_of X G a_count_steps,
    F_Reader_init := fun_mk (st := s_Reader_init) l_Reader_init c_Reader_init k_Reader_init,
    b_Reader_init := (fun_mk (st := s_Reader_init) l_Reader_init c_Reader_init k_Reader_init).binds (ps := ["self", "text"]) fun _ _ _ _ _ _ us hl => match us, hl with | [_, _], _ => rfl,
    m_Reader_init := ⟨a_Reader_init, i_Reader_init, k_Reader_init⟩,
    F_Reader_whole := fun_mk (st := s_Reader_whole) l_Reader_whole c_Reader_whole k_Reader_whole,
    b_Reader_whole := (fun_mk (st := s_Reader_whole) l_Reader_whole c_Reader_whole k_Reader_whole).binds (ps := ["self"]) fun _ _ _ _ _ _ us hl => match us, hl with | [_], _ => rfl,
    m_Reader_whole := ⟨a_Reader_whole, i_Reader_whole, k_Reader_whole⟩,
    F_Reader_here := fun_mk (st := s_Reader_here) l_Reader_here c_Reader_here k_Reader_here,
    b_Reader_here := (fun_mk (st := s_Reader_here) l_Reader_here c_Reader_here k_Reader_here).binds (ps := ["self"]) fun _ _ _ _ _ _ us hl => match us, hl with | [_], _ => rfl,
    m_Reader_here := ⟨a_Reader_here, i_Reader_here, k_Reader_here⟩,
    F_Reader_skip := fun_mk (st := s_Reader_skip) l_Reader_skip c_Reader_skip k_Reader_skip,
    b_Reader_skip := (fun_mk (st := s_Reader_skip) l_Reader_skip c_Reader_skip k_Reader_skip).binds (ps := ["self", "some"]) fun _ _ _ _ _ _ us hl => match us, hl with | [_, _], _ => rfl,
    m_Reader_skip := ⟨a_Reader_skip, i_Reader_skip, k_Reader_skip⟩,
    F_Reader_letters := fun_mk (st := s_Reader_letters) l_Reader_letters c_Reader_letters k_Reader_letters,
    b_Reader_letters := (fun_mk (st := s_Reader_letters) l_Reader_letters c_Reader_letters k_Reader_letters).binds (ps := ["self", "many"]) fun _ _ _ _ _ _ us hl => match us, hl with | [_, _], _ => rfl,
    m_Reader_letters := ⟨a_Reader_letters, i_Reader_letters, k_Reader_letters⟩,
    F_Reader_is_opened := fun_mk (st := s_Reader_is_opened) l_Reader_is_opened c_Reader_is_opened k_Reader_is_opened,
    b_Reader_is_opened := (fun_mk (st := s_Reader_is_opened) l_Reader_is_opened c_Reader_is_opened k_Reader_is_opened).binds (ps := ["self"]) fun _ _ _ _ _ _ us hl => match us, hl with | [_], _ => rfl,
    m_Reader_is_opened := ⟨a_Reader_is_opened, i_Reader_is_opened, k_Reader_is_opened⟩,
    F_Reader_class_name := fun_mk (st := s_Reader_class_name) l_Reader_class_name c_Reader_class_name k_Reader_class_name,
    b_Reader_class_name := (fun_mk (st := s_Reader_class_name) l_Reader_class_name c_Reader_class_name k_Reader_class_name).binds (ps := ["self"]) fun _ _ _ _ _ _ us hl => match us, hl with | [_], _ => rfl,
    m_Reader_class_name := ⟨a_Reader_class_name, i_Reader_class_name, k_Reader_class_name⟩,
    F_Reader_read_request := fun_mk (st := s_Reader_read_request) l_Reader_read_request c_Reader_read_request k_Reader_read_request,
    b_Reader_read_request := (fun_mk (st := s_Reader_read_request) l_Reader_read_request c_Reader_read_request k_Reader_read_request).binds (ps := ["self"]) fun _ _ _ _ _ _ us hl => match us, hl with | [_], _ => rfl,
    m_Reader_read_request := ⟨a_Reader_read_request, i_Reader_read_request, k_Reader_read_request⟩,
    F_Reader_close := fun_mk (st := s_Reader_close) l_Reader_close c_Reader_close k_Reader_close,
    b_Reader_close := (fun_mk (st := s_Reader_close) l_Reader_close c_Reader_close k_Reader_close).binds (ps := ["self"]) fun _ _ _ _ _ _ us hl => match us, hl with | [_], _ => rfl,
    m_Reader_close := ⟨a_Reader_close, i_Reader_close, k_Reader_close⟩,
    F_law_bag := fun_mk (st := s_law_bag) l_law_bag c_law_bag k_law_bag,
    b_law_bag := (fun_mk (st := s_law_bag) l_law_bag c_law_bag k_law_bag).binds (ps := ["_law_script", "_law_at"]) fun _ _ _ _ _ _ us hl => match us, hl with | [_, _], _ => rfl,
    g_law_bag := PySem.W.mg_of X G a_law_bag,
    F_law_take := fun_mk (st := s_law_take) l_law_take c_law_take k_law_take,
    b_law_take := (fun_mk (st := s_law_take) l_law_take c_law_take k_law_take).binds (ps := ["_law_bag_here", "_law_many"]) fun _ _ _ _ _ _ us hl => match us, hl with | [_, _], _ => rfl,
    g_law_take := PySem.W.mg_of X G a_law_take,
    F_law_of := fun_mk (st := s_law_of) l_law_of c_law_of k_law_of,
    b_law_of := (fun_mk (st := s_law_of) l_law_of c_law_of k_law_of).binds (ps := ["_law_bag_here", "_law_some"]) fun _ _ _ _ _ _ us hl => match us, hl with | [_, _], _ => rfl,
    g_law_of := PySem.W.mg_of X G a_law_of,
    F_law_letters := fun_mk (st := s_law_letters) l_law_letters c_law_letters k_law_letters,
    b_law_letters := (fun_mk (st := s_law_letters) l_law_letters c_law_letters k_law_letters).binds (ps := ["_law_bag_here", "_law_first", "_law_many"]) fun _ _ _ _ _ _ us hl => match us, hl with | [_, _, _], _ => rfl,
    g_law_letters := PySem.W.mg_of X G a_law_letters,
    F_law_number := fun_mk (st := s_law_number) l_law_number c_law_number k_law_number,
    b_law_number := (fun_mk (st := s_law_number) l_law_number c_law_number k_law_number).binds (ps := ["_law_x", "_law_due"]) fun _ _ _ _ _ _ us hl => match us, hl with | [_, _], _ => rfl,
    g_law_number := PySem.W.mg_of X G a_law_number,
    F_law_leaf_right := fun_mk (st := s_law_leaf_right) l_law_leaf_right c_law_leaf_right k_law_leaf_right,
    b_law_leaf_right := (fun_mk (st := s_law_leaf_right) l_law_leaf_right c_law_leaf_right k_law_leaf_right).binds (ps := ["_law_bag_here"]) fun _ _ _ _ _ _ us hl => match us, hl with | [_], _ => rfl,
    g_law_leaf_right := PySem.W.mg_of X G a_law_leaf_right,
    F_law_asked_right := fun_mk (st := s_law_asked_right) l_law_asked_right c_law_asked_right k_law_asked_right,
    b_law_asked_right := (fun_mk (st := s_law_asked_right) l_law_asked_right c_law_asked_right k_law_asked_right).binds (ps := ["_law_bag_here"]) fun _ _ _ _ _ _ us hl => match us, hl with | [_], _ => rfl,
    g_law_asked_right := PySem.W.mg_of X G a_law_asked_right,
    F_law := fun_mk (st := s_law) l_law c_law k_law,
    b_law := (fun_mk (st := s_law) l_law c_law k_law).binds (ps := ["_law_script"]) fun _ _ _ _ _ _ us hl => match us, hl with | [_], _ => rfl,
    g_law := PySem.W.mg_of X G a_law,
    g_Expression := PySem.W.mg_of X G a_C_Expression,
    cl_Expression := ⟨pg_Expression, hd_Expression, po_Expression, sa_Expression⟩,
    ty_Expression := ⟨⟨pg_Expression, hd_Expression, po_Expression, sa_Expression⟩, hc_Expression, hnC, htC, mo_Expression, ic_Expression, ty_Expression⟩,
    cr_Expression := ⟨rd_Expression, ga_Expression⟩,
    mk_Expression := ⟨mk_Expression, a_Expression_init, i_Expression_init, kc_Expression⟩,
    ne_Expression := ⟨ne_Expression, mo_Expression⟩,
    no_Expression_text := no_Expression_text,
    no_Expression_program := no_Expression_program,
    g_Reader := PySem.W.mg_of X G a_C_Reader,
    cl_Reader := ⟨pg_Reader, hd_Reader, po_Reader, sa_Reader⟩,
    ty_Reader := ⟨⟨pg_Reader, hd_Reader, po_Reader, sa_Reader⟩, hc_Reader, hnC, htC, mo_Reader, ic_Reader, ty_Reader⟩,
    cr_Reader := ⟨rd_Reader, ga_Reader⟩,
    mk_Reader := ⟨mk_Reader, a_Reader_init, i_Reader_init, kc_Reader⟩,
    no_Reader_text := no_Reader_text,
    no_Reader_at := no_Reader_at,
    no_Reader_nested := no_Reader_nested,
    no_Reader_rows := no_Reader_rows,
    g_MOST := PySem.W.mg_of X G a_MOST,
    g_SMALL := PySem.W.mg_of X G a_SMALL,
    g_CAPITAL := PySem.W.mg_of X G a_CAPITAL,
    g_LONGEST := PySem.W.mg_of X G a_LONGEST,
    g_LEAF := PySem.W.mg_of X G a_LEAF,
    g_ASKED := PySem.W.mg_of X G a_ASKED,
    g_UNARY_SIGNS := PySem.W.mg_of X G a_UNARY_SIGNS,
    q_UNARY_SIGNS := fun _ => .inr ⟨_, _, _, lk_UNARY_SIGNS, rfl, rfl, (by show 4 ≤ sizeLine; decide), .cons ⟨_, rfl⟩ (.cons ⟨_, rfl⟩ (.cons ⟨_, rfl⟩ (.cons ⟨_, rfl⟩ (.nil))))⟩,
    g_DONE := PySem.W.mg_of X G a_DONE,
    n_abs := PySem.W.mg_none_of X G n_abs,
    n_bool := PySem.W.mg_none_of X G n_bool,
    n_enumerate := PySem.W.mg_none_of X G n_enumerate,
    n_int := PySem.W.mg_none_of X G n_int,
    n_isinstance := PySem.W.mg_none_of X G n_isinstance,
    n_len := PySem.W.mg_none_of X G n_len,
    n_list := PySem.W.mg_none_of X G n_list,
    n_max := PySem.W.mg_none_of X G n_max,
    n_min := PySem.W.mg_none_of X G n_min,
    n_range := PySem.W.mg_none_of X G n_range,
    n_str := PySem.W.mg_none_of X G n_str,
    n_tuple := PySem.W.mg_none_of X G n_tuple }
  exact ⟨_, fun s v => .of_eq rfl, fun base _ _ => ok_law T⟩
theorem walk {l : PySem.W.OpenLaw} {q : Program} {loose : List Str} {XP : (Str → Option Value) → Heap → Prop} {YP : World → Heap → Prop} {d : DefRec} {K : Params → PySem.W.Frag} (hn : l.most = some 63) (hdf : d.params.defaults = [])
    (hY : ∀ (w : World) (h : Heap), YP w h → (K w.params).In h)
    (F : ∀ (w : World) (mg : Str → Option Value) (fa : Addr) (h : Heap), (K w.params).In h → h.Ns mainGlobals mg → mg d.name = some (.ref fa) →
      ∃ fd : FuncData, (∀ (s : Shared) (u : Value), BindsTo s fd ⟨[u], []⟩ [("_law_script", u)]) ∧ ∀ base : Heap, (K w.params).In base → base.Ns mainGlobals mg → FnOk l.prog w (K w.params) mg base CX0 11 fa fd ["_law_script"] (sp_law (K w.params))) :
    PySem.W.WalkO q loose XP YP l.row.toRowW d [] (fun f vs => PySem.call f vs) :=
  L2.walk_ofB (n := 63) (k := 11) (x := "_law_script") (CX := fun _ => CX0) (sp := fun w => sp_law (K w.params)) hn (by decide) hdf ⟨rfl, by decide, by decide⟩ hY F (fun _ _ a ns hl hb _ hS => ⟨a, ns, rfl, hS, hl, fun _ => rfl⟩) fun _ _ _ _ _ z => z
end K31
open PySem PySem.W PyProof.Rows
set_option maxRecDepth 100000 in
set_option maxHeartbeats 0 in
theorem PySem.Challenge.cw_heirsback_k31_leaves_and_requests_holds : PySem.Challenge.rw_heirsback_k31_leaves_and_requests.Holds := by
  refine hd ?_
  k_fill
  refine K31.walk (l := PySem.Challenge.rw_heirsback_k31_leaves_and_requests) rfl rfl (fun w h Y => PySem.W.kIn_of Y) ?F
  case F =>
    intro w mg fa h KX G hmg
    have hmg : mg "law" = some (.ref fa) := hmg
    refine' K31.all_mk KX G hmg ?a_C_Expression ?a_C_Reader ?a_Expression_init ?i_Expression_init ?l_Expression_init ?c_Expression_init ?k_Expression_init ?a_Expression_leaf ?rc_Expression_leaf ?l_Expression_leaf ?c_Expression_leaf ?k_Expression_leaf ?a_Expression_asked ?rc_Expression_asked ?l_Expression_asked ?c_Expression_asked ?k_Expression_asked ?a_Expression_read ?rc_Expression_read ?fi_Expression_read ?l_Expression_read ?c_Expression_read ?k_Expression_read ?a_Expression_signs ?i_Expression_signs ?l_Expression_signs ?c_Expression_signs ?k_Expression_signs ?a_Expression_leaves ?i_Expression_leaves ?l_Expression_leaves ?c_Expression_leaves ?k_Expression_leaves ?a_Expression_len ?i_Expression_len ?l_Expression_len ?c_Expression_len ?k_Expression_len ?a_Expression_str ?i_Expression_str ?l_Expression_str ?c_Expression_str ?k_Expression_str ?a_Expression_eq ?i_Expression_eq ?l_Expression_eq ?c_Expression_eq ?k_Expression_eq ?a_count_steps ?l_count_steps ?c_count_steps ?k_count_steps ?a_Reader_init ?i_Reader_init ?l_Reader_init ?c_Reader_init ?k_Reader_init ?a_Reader_whole ?i_Reader_whole ?l_Reader_whole ?c_Reader_whole ?k_Reader_whole ?a_Reader_here ?i_Reader_here ?l_Reader_here ?c_Reader_here ?k_Reader_here ?a_Reader_skip ?i_Reader_skip ?l_Reader_skip ?c_Reader_skip ?k_Reader_skip ?a_Reader_letters ?i_Reader_letters ?l_Reader_letters ?c_Reader_letters ?k_Reader_letters ?a_Reader_is_opened ?i_Reader_is_opened ?l_Reader_is_opened ?c_Reader_is_opened ?k_Reader_is_opened ?a_Reader_class_name ?i_Reader_class_name ?l_Reader_class_name ?c_Reader_class_name ?k_Reader_class_name ?a_Reader_read_request ?i_Reader_read_request ?l_Reader_read_request ?c_Reader_read_request ?k_Reader_read_request ?a_Reader_close ?i_Reader_close ?l_Reader_close ?c_Reader_close ?k_Reader_close ?a_law_bag ?l_law_bag ?c_law_bag ?k_law_bag ?a_law_take ?l_law_take ?c_law_take ?k_law_take ?a_law_of ?l_law_of ?c_law_of ?k_law_of ?a_law_letters ?l_law_letters ?c_law_letters ?k_law_letters ?a_law_number ?l_law_number ?c_law_number ?k_law_number ?a_law_leaf_right ?l_law_leaf_right ?c_law_leaf_right ?k_law_leaf_right ?a_law_asked_right ?l_law_asked_right ?c_law_asked_right ?k_law_asked_right ?a_law ?l_law ?c_law ?k_law ?pg_Expression ?hd_Expression ?po_Expression ?sa_Expression ?mk_Expression ?kc_Expression ?rd_Expression ?ga_Expression ?mo_Expression ?hc_Expression ?ic_Expression ?ty_Expression ?ne_Expression ?no_Expression_text ?no_Expression_program ?pg_Reader ?hd_Reader ?po_Reader ?sa_Reader ?mk_Reader ?kc_Reader ?rd_Reader ?ga_Reader ?mo_Reader ?hc_Reader ?ic_Reader ?ty_Reader ?no_Reader_text ?no_Reader_at ?no_Reader_nested ?no_Reader_rows ?hnC ?htC ?a_MOST ?a_SMALL ?a_CAPITAL ?a_LONGEST ?a_LEAF ?a_ASKED ?a_UNARY_SIGNS ?lk_UNARY_SIGNS ?a_DONE ?n_abs ?n_bool ?n_enumerate ?n_int ?n_isinstance ?n_len ?n_list ?n_max ?n_min ?n_range ?n_str ?n_tuple
    (case a_C_Expression => k_is)
    (case a_C_Reader => k_is)
    (case a_Expression_init => k_is)
    (case i_Expression_init => k_is)
    (case l_Expression_init => k_is)
    (case c_Expression_init => k_is)
    (case k_Expression_init => k_is)
    (case a_Expression_leaf => k_is)
    (case rc_Expression_leaf => k_is)
    (case l_Expression_leaf => k_is)
    (case c_Expression_leaf => k_is)
    (case k_Expression_leaf => k_is)
    (case a_Expression_asked => k_is)
    (case rc_Expression_asked => k_is)
    (case l_Expression_asked => k_is)
    (case c_Expression_asked => k_is)
    (case k_Expression_asked => k_is)
    (case a_Expression_read => k_is)
    (case rc_Expression_read => k_is)
    (case fi_Expression_read => k_is)
    (case l_Expression_read => k_is)
    (case c_Expression_read => k_is)
    (case k_Expression_read => k_is)
    (case a_Expression_signs => k_is)
    (case i_Expression_signs => k_is)
    (case l_Expression_signs => k_is)
    (case c_Expression_signs => k_is)
    (case k_Expression_signs => k_is)
    (case a_Expression_leaves => k_is)
    (case i_Expression_leaves => k_is)
    (case l_Expression_leaves => k_is)
    (case c_Expression_leaves => k_is)
    (case k_Expression_leaves => k_is)
    (case a_Expression_len => k_is)
    (case i_Expression_len => k_is)
    (case l_Expression_len => k_is)
    (case c_Expression_len => k_is)
    (case k_Expression_len => k_is)
    (case a_Expression_str => k_is)
    (case i_Expression_str => k_is)
    (case l_Expression_str => k_is)
    (case c_Expression_str => k_is)
    (case k_Expression_str => k_is)
    (case a_Expression_eq => k_is)
    (case i_Expression_eq => k_is)
    (case l_Expression_eq => k_is)
    (case c_Expression_eq => k_is)
    (case k_Expression_eq => k_is)
    (case a_count_steps => k_is)
    (case l_count_steps => k_is)
    (case c_count_steps => k_is)
    (case k_count_steps => k_is)
    (case a_Reader_init => k_is)
    (case i_Reader_init => k_is)
    (case l_Reader_init => k_is)
    (case c_Reader_init => k_is)
    (case k_Reader_init => k_is)
    (case a_Reader_whole => k_is)
    (case i_Reader_whole => k_is)
    (case l_Reader_whole => k_is)
    (case c_Reader_whole => k_is)
    (case k_Reader_whole => k_is)
    (case a_Reader_here => k_is)
    (case i_Reader_here => k_is)
    (case l_Reader_here => k_is)
    (case c_Reader_here => k_is)
    (case k_Reader_here => k_is)
    (case a_Reader_skip => k_is)
    (case i_Reader_skip => k_is)
    (case l_Reader_skip => k_is)
    (case c_Reader_skip => k_is)
    (case k_Reader_skip => k_is)
    (case a_Reader_letters => k_is)
    (case i_Reader_letters => k_is)
    (case l_Reader_letters => k_is)
    (case c_Reader_letters => k_is)
    (case k_Reader_letters => k_is)
    (case a_Reader_is_opened => k_is)
    (case i_Reader_is_opened => k_is)
    (case l_Reader_is_opened => k_is)
    (case c_Reader_is_opened => k_is)
    (case k_Reader_is_opened => k_is)
    (case a_Reader_class_name => k_is)
    (case i_Reader_class_name => k_is)
    (case l_Reader_class_name => k_is)
    (case c_Reader_class_name => k_is)
    (case k_Reader_class_name => k_is)
    (case a_Reader_read_request => k_is)
    (case i_Reader_read_request => k_is)
    (case l_Reader_read_request => k_is)
    (case c_Reader_read_request => k_is)
    (case k_Reader_read_request => k_is)
    (case a_Reader_close => k_is)
    (case i_Reader_close => k_is)
    (case l_Reader_close => k_is)
    (case c_Reader_close => k_is)
    (case k_Reader_close => k_is)
    (case a_law_bag => k_is)
    (case l_law_bag => k_is)
    (case c_law_bag => k_is)
    (case k_law_bag => k_is)
    (case a_law_take => k_is)
    (case l_law_take => k_is)
    (case c_law_take => k_is)
    (case k_law_take => k_is)
    (case a_law_of => k_is)
    (case l_law_of => k_is)
    (case c_law_of => k_is)
    (case k_law_of => k_is)
    (case a_law_letters => k_is)
    (case l_law_letters => k_is)
    (case c_law_letters => k_is)
    (case k_law_letters => k_is)
    (case a_law_number => k_is)
    (case l_law_number => k_is)
    (case c_law_number => k_is)
    (case k_law_number => k_is)
    (case a_law_leaf_right => k_is)
    (case l_law_leaf_right => k_is)
    (case c_law_leaf_right => k_is)
    (case k_law_leaf_right => k_is)
    (case a_law_asked_right => k_is)
    (case l_law_asked_right => k_is)
    (case c_law_asked_right => k_is)
    (case k_law_asked_right => k_is)
    (case a_law => k_is)
    (case l_law => k_is)
    (case c_law => k_is)
    (case k_law => k_is)
    (case pg_Expression => k_is)
    (case hd_Expression => k_is)
    (case po_Expression => k_is)
    (case sa_Expression => k_is)
    (case mk_Expression => k_is)
    (case kc_Expression => k_is)
    (case rd_Expression => k_is)
    (case ga_Expression => k_is)
    (case mo_Expression => k_is)
    (case hc_Expression => k_is)
    (case ic_Expression => k_is)
    (case ty_Expression => k_is)
    (case ne_Expression => k_is)
    (case no_Expression_text => k_is)
    (case no_Expression_program => k_is)
    (case pg_Reader => k_is)
    (case hd_Reader => k_is)
    (case po_Reader => k_is)
    (case sa_Reader => k_is)
    (case mk_Reader => k_is)
    (case kc_Reader => k_is)
    (case rd_Reader => k_is)
    (case ga_Reader => k_is)
    (case mo_Reader => k_is)
    (case hc_Reader => k_is)
    (case ic_Reader => k_is)
    (case ty_Reader => k_is)
    (case no_Reader_text => k_is)
    (case no_Reader_at => k_is)
    (case no_Reader_nested => k_is)
    (case no_Reader_rows => k_is)
    (case hnC => k_is)
    (case htC => k_is)
    (case a_MOST => k_is)
    (case a_SMALL => k_is)
    (case a_CAPITAL => k_is)
    (case a_LONGEST => k_is)
    (case a_LEAF => k_is)
    (case a_ASKED => k_is)
    (case a_UNARY_SIGNS => k_is)
    (case lk_UNARY_SIGNS => k_is)
    (case a_DONE => k_is)
    (case n_abs => k_is)
    (case n_bool => k_is)
    (case n_enumerate => k_is)
    (case n_int => k_is)
    (case n_isinstance => k_is)
    (case n_len => k_is)
    (case n_list => k_is)
    (case n_max => k_is)
    (case n_min => k_is)
    (case n_range => k_is)
    (case n_str => k_is)
    (case n_tuple => k_is)
#print axioms PySem.Challenge.cw_heirsback_k31_leaves_and_requests_holds

