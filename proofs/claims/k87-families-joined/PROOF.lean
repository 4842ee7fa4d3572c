import PyProof.Rows.All
import Wide.All
import OpenK.AllK
import Wide.FinOn
import HandS.ForMost
import HandS.ForExc
import HandS.FStr
import HandS.Wide
import HandS.Deep
import HandS.OwnEq
import HandS.ClsMeth
import HandS.CallRecv
import HandS.CallLocal
import HandS.IsInst
import HandS.EndBits
import HandS.RaiseMore
import HandS.Evl
import HandS.Style
import HandS.Codes
import PySem.Challenge.RW_heirsback_k87_families_joined
set_option Elab.async false
set_option linter.all false
set_option maxRecDepth 100000
set_option maxHeartbeats 4000000
/-! Rules beside the hand layer: own special methods by the built-in's name, static methods, classes held in a name. -/
namespace Hk
open PySem PySem.Spec PyProof.Rows L2

/-! ### a def run somewhere below the running body -/
section
variable {X : Cx} {CX : CXT} {n : Nat} {f C : Addr} {fd : FuncData} {ps : List Str} {sp : Sp} {E : XK} {pins : List (Addr × Obj)} {σ : L2.St} {H : Hp} {s : Shared}
theorem run_sub {A : Around} {Q : VK} {us : List Value} {vs : List V} (sb : Sub X n A) (F : FnOk X.prog X.w X.K X.mg X.base CX n f fd ps sp) (hb : Binds X.K fd ps []) (hx : Passes CX X E)
    (I : Inv X pins σ H s) (r : Vals vs us) (h : sp vs H Q E) : wpAny (model X.prog X.w) A (call (.ref f) us) (EP X pins σ Q) X.xe s := by
  have hl : us.length = ps.length := by rw [← r.length]; exact F.len _ _ _ _ h
  have e0 : Env0 X.prog X.w X.K X.mg X.base A X.stack s H := by
    have e := I.env0
    exact ⟨by rw [sb.fr]; exact e.frames, e.mod, e.bs, e.bsz, e.funs, e.frf, e.hok, e.bare⟩
  refine wpAny_call (codeAny_mono (F.run A X.stack s H ⟨us, []⟩ us vs Q E sb.room e0 (by
    have := hb s us I.kIn (by simpa using hl)
    simpa using this) r h) fun r s' hq => ?_)
  cases r with
  | error e => exact hx pins σ H s e s' I hq
  | ok fl =>
    cases fl with
    | ret u => exact I.after hq
    | next => exact False.elim hq
    | brk => exact False.elim hq
    | cont => exact False.elim hq
end

/-- the class at C has the def at f for this name, which keeps sp -/
structure Own (X : Cx) (C : Addr) (name : Str) (n : Nat) (sp : Sp) (E : XK) : Prop where
  ex : ∃ (f : Addr) (fd : FuncData) (ps : List Str) (CX : CXT), FnOk X.prog X.w X.K X.mg X.base CX n f fd ps sp ∧ PySem.W.findIn X.K (.ref C) name = some (some (.ref f)) ∧ PySem.W.isFn X.K (.ref f) = true ∧ Binds X.K fd ps [] ∧ Passes CX X E

section
variable {X : Cx} {n : Nat} {C : Addr} {sp : Sp} {E : XK}
/-- len(o) by __len__ -/
def rLenO (C : Addr) (sp : Sp) (E : XK) : List V → Hp → VK → Prop := fun xs H Q => ∃ a dx fs, xs = [.ref a] ∧ H a = some (.ins C dx fs) ∧ sp [.ref a] H (fun v H' => ∃ k : Int, v = .int k ∧ (0 ≤ k ∧ k < 2 ^ 63) ∧ Q (.int k) H') E
theorem call_lenO (G : Own X C "__len__" n sp E) (hr : Room (n + 1) X.A) : CallR X (.builtin "len") (rLenO C sp E) := by
  obtain ⟨f, fd, ps, CX, F, hs, hf, hb, hx⟩ := G.ex
  intro pins s σ H xs us Q I r h
  obtain ⟨a, dx, fs, rfl, ha, q⟩ := h
  cases r with
  | cons r1 r2 =>
    cases r2
    cases r1
    obtain ⟨mA, J, _⟩ := ins_get I.hok ha
    obtain ⟨od, J, _⟩ := J.look
    obtain ⟨m, hF⟩ := I.fr
    refine PySem.W.len_K hF I.ok.mod.kin J hs hf ?_
    have sb : Sub X n X.A.in1 := ⟨hr.in1, rfl⟩
    refine thn (run_sub (vs := [V.ref a]) sb F hb hx I (.cons rfl .nil) q) fun u s1 hh => ?_
    obtain ⟨v, H1, I1, rv, k, rfl, hk, q1⟩ := hh
    obtain ⟨t, rfl⟩ := rv
    exact ⟨hk, .int k, H1, I1.tok _, ⟨_, rfl⟩, q1⟩
/-- str(o) by __str__ -/
def rStrO (C : Addr) (sp : Sp) (E : XK) : List V → Hp → VK → Prop := fun xs H Q => ∃ a dx fs, xs = [.ref a] ∧ H a = some (.ins C dx fs) ∧ sp [.ref a] H (fun v H' => ∃ k : Str, v = .str k ∧ Q (.str k) H') E
theorem call_strO (G : Own X C "__str__" n sp E) (hr : Room (n + 2) X.A) : CallR X (.type "str") (rStrO C sp E) := by
  obtain ⟨f, fd, ps, CX, F, hs, hf, hb, hx⟩ := G.ex
  intro pins s σ H xs us Q I r h
  obtain ⟨a, dx, fs, rfl, ha, q⟩ := h
  cases r with
  | cons r1 r2 =>
    cases r2
    cases r1
    obtain ⟨mA, J, _⟩ := ins_get I.hok ha
    obtain ⟨od, J, _⟩ := J.look
    have sb : Sub X n X.A.in1.in1 := ⟨hr.in1.in1, rfl⟩
    refine PySem.W.kso_call sb.room.units0 I.kIn J hs hf ?_
    refine thn (run_sub (vs := [V.ref a]) sb F hb hx I (.cons rfl .nil) q) fun u s1 hh => ?_
    obtain ⟨v, H1, I1, rv, k, rfl, q1⟩ := hh
    obtain ⟨t, rfl⟩ := rv
    exact ⟨.str k, H1, I1, ⟨_, rfl⟩, q1⟩
/-- repr(o) by __repr__ -/
def rReprO (C : Addr) (sp : Sp) (E : XK) : List V → Hp → VK → Prop := rStrO C sp E
theorem call_reprO (G : Own X C "__repr__" n sp E) (hr : Room (n + 1) X.A) : CallR X (.builtin "repr") (rReprO C sp E) := by
  obtain ⟨f, fd, ps, CX, F, hs, hf, hb, hx⟩ := G.ex
  intro pins s σ H xs us Q I r h
  obtain ⟨a, dx, fs, rfl, ha, q⟩ := h
  cases r with
  | cons r1 r2 =>
    cases r2
    cases r1
    obtain ⟨mA, J, _⟩ := ins_get I.hok ha
    obtain ⟨od, J, _⟩ := J.look
    obtain ⟨m, hF⟩ := I.fr
    have sb : Sub X n X.A.in1 := ⟨hr.in1, rfl⟩
    refine PySem.W.repr_K sb.room.units0 hF I.ok.mod.kin J hs hf ?_
    refine thn (run_sub (vs := [V.ref a]) sb F hb hx I (.cons rfl .nil) q) fun u s1 hh => ?_
    obtain ⟨v, H1, I1, rv, k, rfl, q1⟩ := hh
    obtain ⟨t, rfl⟩ := rv
    exact ⟨.str k, H1, I1, ⟨_, rfl⟩, q1⟩
/-- the truth of o by __bool__ -/
def rTruO (C : Addr) (sp : Sp) (E : XK) : V → Hp → (Bool → Hp → Prop) → Prop := fun x H Q => ∃ a dx fs, x = .ref a ∧ H a = some (.ins C dx fs) ∧ sp [.ref a] H (fun v H' => ∃ b : Bool, v = .bl b ∧ Q b H') E
theorem tru_O (G : Own X C "__bool__" n sp E) (hr : Room n X.A) : TruR X (rTruO C sp E) := by
  obtain ⟨f, fd, ps, CX, F, hs, hf, hb, hx⟩ := G.ex
  intro pins s σ H x u Q I r h
  obtain ⟨a, dx, fs, rfl, ha, q⟩ := h
  cases r
  obtain ⟨mA, J, _⟩ := ins_get I.hok ha
  obtain ⟨od, J, _⟩ := J.look
  obtain ⟨m, hF⟩ := I.fr
  have sb : Sub X n X.A := ⟨hr, rfl⟩
  refine PySem.W.truthy_K hF I.ok.mod.kin J hs hf ?_
  refine thn (run_sub (vs := [V.ref a]) sb F hb hx I (.cons rfl .nil) q) fun u s1 hh => ?_
  obtain ⟨v, H1, I1, rv, k, rfl, q1⟩ := hh
  cases rv
  exact ⟨H1, I1, q1⟩

/-! ### == and != by __eq__ -/
/-- the type of the other value: an instance of the class itself, or something that is not below it -/
def OtherTy (X : Cx) (H : Hp) (C : Addr) (y : V) : Prop := (∃ b dx fs, y = .ref b ∧ H b = some (.ins C dx fs)) ∨ ∃ t, TyOf X.K H y t ∧ PySem.W.notFirst X.K C t = true
def rEqO (X : Cx) (C : Addr) (sp : Sp) (E : XK) : R2 := fun x y H Q => ∃ a dx fs, x = .ref a ∧ H a = some (.ins C dx fs) ∧ OtherTy X H C y ∧ sp [.ref a, y] H (fun v H' => ∃ b : Bool, v = .bl b ∧ Q (.bl b) H') E
def rNeO (X : Cx) (C : Addr) (sp : Sp) (E : XK) : R2 := fun x y H Q => ∃ a dx fs, x = .ref a ∧ H a = some (.ins C dx fs) ∧ OtherTy X H C y ∧ sp [.ref a, y] H (fun v H' => ∃ b : Bool, v = .bl b ∧ Q (.bl (!b)) H') E
theorem other_looks {pins : List (Addr × Obj)} {σ : L2.St} {H : Hp} {s : Shared} {y : V} {u : Value} (I : Inv X pins σ H s) (ry : RelV y u) (h : OtherTy X H C y) : ∃ t, PySem.W.Looks (model X.prog X.w) s.heap (typeOf u) t ∧ PySem.W.notFirst X.K C t = true := by
  rcases h with ⟨b, dx, fs, rfl, hb⟩ | ⟨t, ty, hn⟩
  · cases ry
    obtain ⟨mA, J, _⟩ := ins_get I.hok hb
    obtain ⟨od, J, _⟩ := J.look
    exact ⟨.ref C, J.type, by simp [PySem.W.notFirst]⟩
  · refine ⟨t, ?_, hn⟩
    cases ty with
    | non => cases (show u = Value.none from ry); exact .of_pure rfl
    | bl y => cases (show u = Value.bool y from ry); exact .of_pure rfl
    | int i => obtain ⟨t, rfl⟩ := (show ∃ t, u = Value.int i t from ry); exact .of_pure rfl
    | str x => obtain ⟨t, rfl⟩ := (show ∃ t, u = Value.str x t from ry); exact .of_pure rfl
    | flt x => obtain ⟨t, rfl⟩ := (show ∃ t, u = Value.float x t from ry); exact .of_pure rfl
    | lst e =>
      cases ry
      obtain ⟨_, its, n, _, e'⟩ := I.hok _ _ e
      exact (PySem.W.Looks.ld e').andThen .now
    | frz e =>
      cases ry
      obtain ⟨eo, _, its, n, _, e'⟩ := I.hok _ _ e
      exact (PySem.W.Looks.ld e').andThen .now
    | tup e =>
      cases ry
      obtain ⟨_, its, _, e'⟩ := I.hok _ _ e
      obtain ⟨o, ho, hc, _⟩ := e'
      exact hc ▸ (PySem.W.Looks.ld ho).andThen .now
    | dK e =>
      cases ry
      obtain ⟨_, _, vs, _, o, es, ep, ho, hx, _⟩ := I.hok _ _ e
      exact hx.1 ▸ (PySem.W.Looks.ld ho).andThen .now
    | dT e =>
      cases ry
      obtain ⟨_, _, xs, _, o, es, ep, ho, hx, _⟩ := I.hok _ _ e
      exact hx.1 ▸ (PySem.W.Looks.ld ho).andThen .now
    | ins e cl ha hg htk hm =>
      cases ry
      obtain ⟨mA, J, _⟩ := ins_get I.hok e
      obtain ⟨od, J, _⟩ := J.look
      exact J.type
theorem op_eqO (G : Own X C "__eq__" n sp E) (hr : Room n X.A) : OpR X (compareOp .Eq) (rEqO X C sp E) := by
  obtain ⟨f, fd, ps, CX, F, hs, hf, hb, hx⟩ := G.ex
  intro pins s σ H x y v u Q I rx ry h
  obtain ⟨a, dx, fs, rfl, ha, ho, q⟩ := h
  cases rx
  obtain ⟨t, ht, hn⟩ := other_looks I ry ho
  obtain ⟨mA, J, _⟩ := ins_get I.hok ha
  obtain ⟨od, J, _⟩ := J.look
  obtain ⟨m, hF⟩ := I.fr
  have sb : Sub X n X.A := ⟨hr, rfl⟩
  show wpAny (model X.prog X.w) X.A (richCompare .Eq (.ref a) u) (EP X pins σ Q) X.xe s
  refine PySem.W.cmp_K (op := .Eq) sb.room.units0 hF I.ok.mod.kin J ht hn hs hf ?_
  refine thn (run_sub (vs := [V.ref a, y]) sb F hb hx I (.cons rfl (.cons ry .nil)) q) fun w1 s1 hh => ?_
  obtain ⟨z, H1, I1, rv, b, rfl, q1⟩ := hh
  cases rv
  exact ⟨.bl b, H1, I1, rfl, q1⟩

theorem ifBound_B {M : Model} {A : Around} {E : Value → Shared → Prop} {s : Shared} {K : PySem.W.Frag} {x C : Addr} {ox : Obj} {od : Option Obj} {name : Str} {id : String} {args : List Value} {Q : Option Value → Shared → Prop} (X : K.In s.heap) (I : PySem.W.InstAt s.heap x ox C od) (hs : PySem.W.findIn K (.ref C) name = some (some (.builtin id)))
    (hb : ∀ self, bindSpecial (.builtin id) self = pure (.builtin id, [self])) (h : wpAny M A (call (.builtin id) (.ref x :: args)) (fun v => Q (some v)) E s) : wpAny M A (callSpecialIfBound? (.ref x) name args) Q E s := by
  simp only [callSpecialIfBound?, bindSpecialIfBound?]
  refine wpAny_holding (wpAny_bind (wpAny_bind (wpAny_bind (I.type.here ((PySem.W.looks_findIn X hs).here ?_)))))
  refine wpAny_bind (wpAny_askSetting (wpAny_ite ?_))
  have fin : wpAny M A (call (.builtin id) ([.ref x] ++ args) >>= fun v => pure (some v)) Q E s := wpAny_bind (wpAny_mono h (fun v s' h' => wpAny_pure h') fun _ _ h' => h')
  split
  · exact wpAny_bind ((PySem.W.Looks.of_pure (hb _)).here (wpAny_pure (by exact fin)))
  · exact wpAny_tryCatch (wpAny_bind ((PySem.W.Looks.of_pure (hb _)).here (wpAny_pure (by exact fin))))
open Builtin in
theorem ne_K {prog : Program} {w : World} {A : Around} {E : Value → Shared → Prop} {s : Shared} {K : PySem.W.Frag} {x C f : Addr} {ox : Obj} {od : Option Obj} {b tb : Value} {Q : Value → Shared → Prop} (hu : A.units < cLine) (hu1 : A.in1.units < cLine) (X : K.In s.heap) (I : PySem.W.InstAt s.heap x ox C od)
    (hb : PySem.W.Looks (model prog w) s.heap (typeOf b) tb) (hn : PySem.W.notFirst K C tb = true) (hne : PySem.W.findIn K (.ref C) "__ne__" = some (some (.builtin "object.__ne__"))) (hm : PySem.W.mroIn K C (.type "object") = some true)
    (hs : PySem.W.findIn K (.ref C) "__eq__" = some (some (.ref f))) (hf : PySem.W.isFn K (.ref f) = true)
    (h : wpAny (model prog w) A.in1 (call (.ref f) [.ref x, b]) (fun v s' => ∃ r : Bool, v = .bool r ∧ Q (.bool (!r)) s') E s) : wpAny (model prog w) A (richCompare .NotEq (.ref x) b) Q E s := by
  have one : wpAny (model prog w) A (tryCompare (.ref x) "__ne__" b) (fun r s' => ∃ v, r = some v ∧ Q v s') E s := by
    unfold tryCompare
    refine wpAny_bind (ifBound_B X I hne PySem.F.slot_object_ne.bind ?_)
    refine wpAny_call (codeAny_call_builtin PySem.F.slot_object_ne.plain PySem.F.cmpEntry_ne (PySem.W.check_slot (i := "object.__ne__") (owner := "object") (n := "__ne__") (by decide +kernel) (by decide +kernel) (I.type.andThen (PySem.W.looks_mroIn X hm)) (PySem.F.cmpArgs_ne _ _) ?_))
    unfold Builtin.«object.__ne__»
    refine wpAny_bind (m := slotArgs "__ne__" 1 _) (wpAny_pure ?_)
    refine wpAny_bind (m := cRoomFor _ _) (wpAny_cRoomFor hu1 ?_)
    refine wpAny_bind (m := callSpecialIfBound? (.ref x) (Str.ofString "__eq__") _) (PySem.W.ifBound_K X I hs hf (wpAny_mono h (fun r s' hr => ?_) fun _ _ y => y))
    obtain ⟨r, rfl, hq⟩ := hr
    refine wpAny_bind (wpAny_truthy_bool ?_)
    exact wpAny_pure (wpAny_pure ⟨_, rfl, hq⟩)
  unfold richCompare
  simp only [PySem.oneThing_ref]
  refine wpAny_holding (wpAny_bind (wpAny_cRoomFor hu ?_))
  refine wpAny_bind (I.type.here (wpAny_bind (hb.here ?_)))
  split
  · rename_i q
    have e : PySem.W.subIn K tb (.ref C) = some false := by
      rcases Bool.or_eq_true_iff.mp hn with e | e
      · rw [beq_iff_eq.mp e] at q; simp at q
      · exact beq_iff_eq.mp e
    refine wpAny_bind ((PySem.W.looks_subIn X e).here ?_)
    simp only [Bool.false_eq_true, if_false]
    refine wpAny_bind (wpAny_mono one (fun r s' z => ?_) fun _ _ e => e)
    obtain ⟨v, rfl, hq⟩ := z
    exact wpAny_pure hq
  · refine wpAny_bind (wpAny_pure ?_)
    simp only [Bool.false_eq_true, if_false]
    refine wpAny_bind (wpAny_mono one (fun r s' z => ?_) fun _ _ e => e)
    obtain ⟨v, rfl, hq⟩ := z
    exact wpAny_pure hq
/-- what a class with its own __eq__ must have for != -/
structure NeC (K : PySem.W.Frag) (C : Addr) : Prop where
  ne : PySem.W.findIn K (.ref C) "__ne__" = some (some (.builtin "object.__ne__"))
  ob : PySem.W.mroIn K C (.type "object") = some true
theorem op_neO (G : Own X C "__eq__" n sp E) (N : NeC X.K C) (hr : Room (n + 1) X.A) : OpR X (compareOp .NotEq) (rNeO X C sp E) := by
  obtain ⟨f, fd, ps, CX, F, hs, hf, hb, hx⟩ := G.ex
  intro pins s σ H x y v u Q I rx ry h
  obtain ⟨a, dx, fs, rfl, ha, ho, q⟩ := h
  cases rx
  obtain ⟨t, ht, hn⟩ := other_looks I ry ho
  obtain ⟨mA, J, _⟩ := ins_get I.hok ha
  obtain ⟨od, J, _⟩ := J.look
  have sb : Sub X n X.A.in1 := ⟨hr.in1, rfl⟩
  show wpAny (model X.prog X.w) X.A (richCompare .NotEq (.ref a) u) (EP X pins σ Q) X.xe s
  refine ne_K hr.units0 sb.room.units0 I.kIn J ht hn N.ne N.ob hs hf ?_
  refine thn (run_sub (vs := [V.ref a, y]) sb F hb hx I (.cons rfl (.cons ry .nil)) q) fun w1 s1 hh => ?_
  obtain ⟨z, H1, I1, rv, b, rfl, q1⟩ := hh
  cases rv
  exact ⟨b, rfl, .bl (!b), H1, I1, rfl, q1⟩

/-! ### in by __contains__, operators by their own methods -/
def rInO (C : Addr) (sp : Sp) (E : XK) (g : Bool → Bool) : R2 := fun x y H Q => ∃ a dx fs, y = .ref a ∧ H a = some (.ins C dx fs) ∧ sp [.ref a, x] H (fun v H' => ∃ b : Bool, v = .bl b ∧ Q (.bl (g b)) H') E
theorem op_inO (G : Own X C "__contains__" n sp E) (hr : Room n X.A) : OpR X (compareOp .In) (rInO C sp E id) := by
  obtain ⟨f, fd, ps, CX, F, hs, hf, hb, hx⟩ := G.ex
  intro pins s σ H x y v u Q I rx ry h
  obtain ⟨a, dx, fs, rfl, ha, q⟩ := h
  cases ry
  obtain ⟨mA, J, _⟩ := ins_get I.hok ha
  obtain ⟨od, J, _⟩ := J.look
  obtain ⟨m, hF⟩ := I.fr
  have sb : Sub X n X.A := ⟨hr, rfl⟩
  refine PySem.W.in_K hF I.ok.mod.kin J hs hf ?_
  refine thn (run_sub (vs := [V.ref a, x]) sb F hb hx I (.cons rfl (.cons rx .nil)) q) fun w1 s1 hh => ?_
  obtain ⟨z, H1, I1, rv, b, rfl, q1⟩ := hh
  cases rv
  exact wpAny_truthy_bool ⟨.bl b, H1, I1, rfl, q1⟩
theorem op_notInO (G : Own X C "__contains__" n sp E) (hr : Room n X.A) : OpR X (compareOp .NotIn) (rInO C sp E not) := by
  obtain ⟨f, fd, ps, CX, F, hs, hf, hb, hx⟩ := G.ex
  intro pins s σ H x y v u Q I rx ry h
  obtain ⟨a, dx, fs, rfl, ha, q⟩ := h
  cases ry
  obtain ⟨mA, J, _⟩ := ins_get I.hok ha
  obtain ⟨od, J, _⟩ := J.look
  obtain ⟨m, hF⟩ := I.fr
  have sb : Sub X n X.A := ⟨hr, rfl⟩
  refine PySem.W.notIn_K hF I.ok.mod.kin J hs hf ?_
  refine thn (run_sub (vs := [V.ref a, x]) sb F hb hx I (.cons rfl (.cons rx .nil)) q) fun w1 s1 hh => ?_
  obtain ⟨z, H1, I1, rv, b, rfl, q1⟩ := hh
  cases rv
  exact wpAny_truthy_bool ⟨.bl (!b), H1, I1, rfl, q1⟩
/-- a op b, two instances of one class; the answer an object -/
def rBinO (C : Addr) (sp : Sp) (E : XK) : R2 := fun x y H Q => ∃ a dx fs b dy gs, x = .ref a ∧ y = .ref b ∧ H a = some (.ins C dx fs) ∧ H b = some (.ins C dy gs) ∧ sp [.ref a, .ref b] H (fun v H' => ∃ p, v = .ref p ∧ Q (.ref p) H') E
theorem op_binO {op : Operator} (G : Own X C (dunder op.info.snd) n sp E) (hc : PySem.W.selfFirst X.K C = true) (hr : Room n X.A) : OpR X (binaryOp op) (rBinO C sp E) := by
  obtain ⟨f, fd, ps, CX, F, hs, hf, hb, hx⟩ := G.ex
  intro pins s σ H x y v u Q I rx ry h
  obtain ⟨a, dx, fs, b, dy, gs, rfl, rfl, ha, hb', q⟩ := h
  cases rx
  cases ry
  obtain ⟨mA, J, _⟩ := ins_get I.hok ha
  obtain ⟨od, J, _⟩ := J.look
  obtain ⟨mB, J', _⟩ := ins_get I.hok hb'
  obtain ⟨od', J', _⟩ := J'.look
  obtain ⟨m, hF⟩ := I.fr
  have sb : Sub X n X.A := ⟨hr, rfl⟩
  refine PySem.W.binop_K hF I.ok.mod.kin J J'.type hc hs hf ?_
  refine thn (run_sub (vs := [V.ref a, V.ref b]) sb F hb hx I (.cons rfl (.cons rfl .nil)) q) fun w1 s1 hh => ?_
  obtain ⟨z, H1, I1, rv, p, rfl, q1⟩ := hh
  cases rv
  exact ⟨.ref p, H1, I1, rfl, q1⟩
end

/-! ### static methods, read off the class -/
structure SMet (K : PySem.W.Frag) (C : Addr) (mc : Value) (m : Str) (g : Addr) : Prop where
  rd : ClX.CRead K C mc
  at_ : ∃ p o, PySem.W.findCls K (.ref C) mc m = some (.get (.builtin "staticmethod.__get__") (.ref p) o (.ref C)) ∧ ∃ rest, PySem.W.recIn K p "staticmethod" = some (.ref g :: rest)
  kp : PySem.W.keepIn K (.ref g) = true
theorem getmethsm_ok {X : Cx} {pins : List (Addr × Obj)} {σ : L2.St} {H : Hp} {s : Shared} {C g : Addr} {mc : Value} {m : Str} {A : Around} {E : Value → Shared → Prop} {pl : Sem Bool} {Q : Value × List Value → Shared → Prop} (I : Inv X pins σ H s) (k : SMet X.K C mc m g)
    (h : ∀ s', Inv X pins σ H s' → Q (.ref g, []) s') : wpAny (model X.prog X.w) A (getMethod (.ref C) m pl) Q E s := by
  obtain ⟨p, o, ha, rest, hp⟩ := k.at_
  refine PySem.W.method_cls I.kIn k.rd.ga (PySem.W.cls_bind I.kIn k.rd.rd ha ?_)
  refine wpAny_call (PySem.W.sm_get (s := { s with toks := s.toks + 1 }) I.kIn hp (PySem.W.handed_on rfl ?_))
  exact h _ (I.tok _)
section
variable {X : Cx} {CX : CXT} {k : Nat} {C g f : Addr} {mc : Value} {sp : Sp} {E : XK} {o e : Expr} {es : List Expr} {kws : List Keyword} {m x : Str} {pos apos p : Pos} {ta : TE} {t tk : TA} {pl : Sem Bool} {fd : FuncData} {ps ks : List Str}
/-- C.m(e, ..) -/
def tSMeth (C : Addr) (sp : Sp) (E : XK) (ta : TE) (t : TA) : TE := fun σ H Q => ta σ H fun x H1 => x = .ref C ∧ t σ H1 fun vs H2 => sp (vs ++ []) H2 Q E
theorem pe_smeth (he : PE X o ta) (c : SMet X.K C mc m g) (F : FnOk X.prog X.w X.K X.mg X.base CX k g fd ps sp) (hr : Room k X.A) (hb : Binds X.K fd ps []) (hx : Passes CX X E) (ha : PA X (e :: es) t)
    (hst : starEach (e :: es) X.env = (false, eval e X.env) :: starEach es X.env := by rfl) (hpl : (backTo pos (starEach es X.env)).any (·.1) = false := by rfl)
    (ht : eval (.Call (.Attribute o m apos) (e :: es) [] pos) X.env = (do
      let ov ← eval o X.env
      standAt apos.atName
      let (f, first) ← holding [ov] (getMethod ov m pl)
      callWith pos f first (backTo pos (starEach (e :: es) X.env)) (backToKw pos (keywordEach [] X.env))) := by rfl) :
    PE X (.Call (.Attribute o m apos) (e :: es) [] pos) (tSMeth C sp E ta t) := by
  refine ⟨fun pins s σ H Q I h => ?_⟩
  refine PySem.W.methodCall_KW (pl := pl) (thn (he.run pins s σ H _ I h) fun u s1 ⟨x, H1, I1, rx, ex, q⟩ => ?_) ht
  subst ex
  obtain rfl : u = Value.ref C := rx
  refine getmethsm_ok I1 c fun s2 I2 => ?_
  refine PySem.W.callWith_K (first := []) (h₀ := X.base) I.ok.mod.kin c.kp (thn (ha.run pos pins s2 σ H1 _ I2 q) fun us s3 ⟨vs, H2, I3, r, q2⟩ => ⟨I3.kIn, ?_⟩) hst hpl
  exact run_fn F hr hb .nil hx I3 r q2
/-- C.m(k = v, ..) -/
def tSMethK (C : Addr) (sp : Sp) (gV : List V → List V → List V) (E : XK) (ta : TE) (tk : TA) : TE := fun σ H Q => ta σ H fun x H1 => x = .ref C ∧ tk σ H1 fun zs H2 => sp (gV [] zs) H2 Q E
variable {gg : List Value → List Value → List Value} {gV : List V → List V → List V}
theorem pe_smethK (he : PE X o ta) (c : SMet X.K C mc m g) (F : FnOk X.prog X.w X.K X.mg X.base CX k g fd ps sp) (hr : Room k X.A) (hb : KBinds X.K fd ps ks gg gV) (hx : Passes CX X E) (hkw : PK X kws tk)
    (hall : (backToKw pos (keywordEach kws X.env)).all (·.1.isSome) = true := by rfl) (hks : (backToKw pos (keywordEach kws X.env)).filterMap (·.1) = ks := by rfl)
    (hpl : ((backTo pos (starEach [] X.env)).any (·.1) || (backToKw pos (keywordEach kws X.env)).any (·.1.isNone)) = false := by rfl)
    (ht : eval (.Call (.Attribute o m apos) [] kws pos) X.env = (do
      let ov ← eval o X.env
      standAt apos.atName
      let (f, first) ← holding [ov] (getMethod ov m pl)
      callWith pos f first (backTo pos (starEach [] X.env)) (backToKw pos (keywordEach kws X.env))) := by rfl) :
    PE X (.Call (.Attribute o m apos) [] kws pos) (tSMethK C sp gV E ta tk) := by
  refine ⟨fun pins s σ H Q I h => ?_⟩
  refine PySem.W.methodCall_KW (pl := pl) (thn (he.run pins s σ H _ I h) fun u s1 ⟨x, H1, I1, rx, ex, q⟩ => ?_) ht
  subst ex
  obtain rfl : u = Value.ref C := rx
  refine getmethsm_ok I1 c fun s2 I2 => ?_
  refine PySem.W.callWith_KW0 (first := []) (h₀ := X.base) I.ok.mod.kin c.kp hall ?_ hpl
  refine thn (hkw.run pos pins s2 σ H1 _ I2 q) fun ws s3 ⟨zs, H2, I3, rz, q2⟩ => ⟨I3.kIn, ?_⟩
  rw [hks]
  exact run_fnk (us := []) (vs := []) F hr hb hx I3 .nil rz q2
/-- the i-th slot holds the class at C: x(e, ..) makes an instance -/
def tMakeL (i : Nat) (C : Addr) (sp : Sp) (E : XK) (t : TA) : TE := fun σ H Q => σ[i]? = some (some (.ref C)) ∧ tMake C sp [] E t σ H Q
theorem pe_makeL {i : Nat} (M : Mk X.K C f) (F : FnOk X.prog X.w X.K X.mg X.base CX k f fd ps sp) (hr : Room (k + 1) X.A) (hN : X.N[i]? = some x) (hv : Vis X.env.scope x) (hb : Binds X.K fd ps []) (hx : Passes CX X E)
    (ha : PA X (e :: es) t) (hdb : (x == ("__debug__" : Str)) = false := by decide) (hcd : (x == ("__classdict__" : Str)) = false := by decide) (he : starEach (e :: es) X.env = (false, eval e X.env) :: starEach es X.env := by rfl) (hpl : (backTo pos (starEach es X.env)).any (·.1) = false := by rfl) :
    PE X (.Call (.Name x p) (e :: es) [] pos) (tMakeL i C sp E t) := by
  refine ⟨fun pins s σ H Q I h => ?_⟩
  obtain ⟨hs, ht⟩ := h
  refine wpAny_Call_Name_kw (thn ((pe_var (pos := p) hN hv hdb hcd).run pins s σ H (fun v H1 => v = .ref C ∧ H1 = H) I ⟨.ref C, hs, rfl, rfl⟩) fun u s1 ⟨v, H1, I1, r1, q1⟩ => ?_)
  obtain ⟨rfl, rfl⟩ := q1
  cases r1
  refine PySem.W.callWith_K (h₀ := X.base) I.ok.mod.kin M.kp (thn (ha.run pos pins s1 σ _ _ I1 ht) fun us s2 ⟨vs, H2, I2, r, q⟩ => ⟨I2.kIn, ?_⟩) he hpl
  exact run_make M F hr hb .nil hx I2 r q
end

/-! ### a classmethod called with keywords -/
theorem fnR_of {P : Program} {w : World} {K : PySem.W.Frag} {mg : Str → Option Value} {base : Heap} {CX : CXT} {k : Nat} {f : Addr} {fd : FuncData} {ps : List Str} {sp : Sp} (F : FnOk P w K mg base CX k f fd ps sp) (hb : Binds K fd ps []) : FnR P w K mg base CX k f sp := by
  have h := FnOk.raw F hb (.nil : Vals [] [])
  refine FnR.imp h fun vs H Q E q => ?_
  show sp (vs ++ []) H Q E
  rw [List.append_nil]
  exact q
section
variable {X : Cx} {CX : CXT} {k : Nat} {C p g : Addr} {mc : Value} {sp : Sp} {E : XK} {o : Expr} {kws : List Keyword} {m : Str} {pos apos : Pos} {ta : TE} {tk : TA} {pl : Sem Bool} {fd : FuncData} {ps ks : List Str} {gg : List Value → List Value → List Value} {gV : List V → List V → List V}
def tCMethK (C : Addr) (sp : Sp) (gV : List V → List V → List V) (E : XK) (ta : TE) (tk : TA) : TE := fun σ H Q => ta σ H fun x H1 => x = .ref C ∧ tk σ H1 fun zs H2 => sp (gV [.ref C] zs) H2 Q E
theorem pe_cmethK (he : PE X o ta) (r : ClX.CRead X.K C mc) (c : ClX.CMet X.K C mc m p g) (F : FnOk X.prog X.w X.K X.mg X.base CX k g fd ps sp) (hr : Room k X.A) (hb : KBinds X.K fd ps ks gg gV) (hx : Passes CX X E) (hkw : PK X kws tk)
    (hall : (backToKw pos (keywordEach kws X.env)).all (·.1.isSome) = true := by rfl) (hks : (backToKw pos (keywordEach kws X.env)).filterMap (·.1) = ks := by rfl)
    (hpl : ((backTo pos (starEach [] X.env)).any (·.1) || (backToKw pos (keywordEach kws X.env)).any (·.1.isNone)) = false := by rfl)
    (ht : eval (.Call (.Attribute o m apos) [] kws pos) X.env = (do
      let ov ← eval o X.env
      standAt apos.atName
      let (f, first) ← holding [ov] (getMethod ov m pl)
      callWith pos f first (backTo pos (starEach [] X.env)) (backToKw pos (keywordEach kws X.env))) := by rfl) :
    PE X (.Call (.Attribute o m apos) [] kws pos) (tCMethK C sp gV E ta tk) := by
  refine ⟨fun pins s σ H Q I h => ?_⟩
  refine PySem.W.methodCall_KW (pl := pl) (thn (he.run pins s σ H _ I h) fun u s1 ⟨x, H1, I1, rx, ex, q⟩ => ?_) ht
  subst ex
  obtain rfl : u = Value.ref C := rx
  refine ClX.getmethcm_ok I1 r c fun s2 I2 => ?_
  refine PySem.W.callWith_of (P := PySem.W.MethP X.K s1.heap.objs.size g (.ref C)) hpl (PySem.W.keeps_M c.fi) (PyProof.Rows.evalArgs_kw2_nil hall ?_)
  refine thn (hkw.run pos _ s2 σ H1 _ I2 q) fun ws s3 ⟨zs, H2, I3, rz, q2⟩ => ⟨⟨ClX.pin_at I3, I3.kIn⟩, ?_⟩
  rw [hks]
  have r2 := hb.rel (vs := [V.ref C]) (us := [Value.ref C]) (.cons rfl .nil) rz
  have hl : (gg [Value.ref C] ws).length = ps.length := by rw [← r2.length]; exact F.len _ _ _ _ q2
  have z : wpAny (model X.prog X.w) X.A (call (.ref s1.heap.objs.size) [] (ks.zip ws)) (EP X ((s1.heap.objs.size, PySem.W.methodObj (.ref g) (.ref C)) :: pins) σ Q) X.xe s3 := by
    refine wpAny_call (PySem.W.method_call (ClX.pin_at I3) (codeAny_mono (F.run X.A X.stack s3 H2 ⟨[.ref C], ks.zip ws⟩ (gg [.ref C] ws) (gV [.ref C] zs) Q E hr I3.env0 (hb.to s3 [.ref C] ws I3.kIn hl) r2 q2) fun r s' hq => ?_))
    cases r with
    | error e => exact hx _ σ H2 s3 e s' I3 hq
    | ok fl =>
      cases fl with
      | ret u => exact I3.after hq
      | next => exact False.elim hq
      | brk => exact False.elim hq
      | cont => exact False.elim hq
  exact thn z fun _ _ y => ClX.unpinE y
end

/-! ### keywords in the order of the parameters -/
def kperm_0_10 {α : Type} : List α → List α → List α
  | [], [x, y] => [y, x]
  | _, _ => []
def kperm_1_0 {α : Type} : List α → List α → List α
  | [c], [x] => [c, x]
  | _, _ => []
section
variable {K : PySem.W.Frag} {x qual : Str} {st : Stmt} {f : Addr} {fd : FuncData}
theorem kperm_0_10_kb {p0 p1 k0 k1 : Str} (F : Fun K x qual st f fd) (h : ∀ (kV doc pm : Value) (an : Option Addr) (cdv ct : Value) (u v : Value), bindArgs (PySem.W.fnOf x qual (defArgs st) (defBody st) (defScope st) .none kV doc pm an cdv ct) ⟨[], [(k0, u), (k1, v)]⟩ = pure [(p0, v), (p1, u)]) :
    KBinds K fd [p0, p1] [k0, k1] kperm_0_10 kperm_0_10 := by
  obtain ⟨oc, od, kV, doc, pm, an, cdv, ct, osl, rfl, lk, hcd⟩ := F.ex
  refine ⟨fun s us ws _ hl => ?_, fun {vs us zs ws} r r2 => ?_⟩
  · match us, ws, hl with
    | [], [u, v], _ => exact .of_eq (h kV doc pm an cdv ct u v)
    | [], [], hl => simp [kperm_0_10] at hl
    | [], [_], hl => simp [kperm_0_10] at hl
    | [], _ :: _ :: _ :: _, hl => simp [kperm_0_10] at hl
    | _ :: _, _, hl => simp [kperm_0_10] at hl
  · cases r with
    | cons _ _ => exact .nil
    | nil =>
      cases r2 with
      | nil => exact .nil
      | cons a r2 =>
        cases r2 with
        | nil => exact .nil
        | cons b r2 =>
          cases r2 with
          | nil => exact .cons b (.cons a .nil)
          | cons _ _ => exact .nil
theorem kperm_1_0_kb {p0 p1 k0 : Str} (F : Fun K x qual st f fd) (h : ∀ (kV doc pm : Value) (an : Option Addr) (cdv ct : Value) (u v : Value), bindArgs (PySem.W.fnOf x qual (defArgs st) (defBody st) (defScope st) .none kV doc pm an cdv ct) ⟨[u], [(k0, v)]⟩ = pure [(p0, u), (p1, v)]) :
    KBinds K fd [p0, p1] [k0] kperm_1_0 kperm_1_0 := by
  obtain ⟨oc, od, kV, doc, pm, an, cdv, ct, osl, rfl, lk, hcd⟩ := F.ex
  refine ⟨fun s us ws _ hl => ?_, fun {vs us zs ws} r r2 => ?_⟩
  · match us, ws, hl with
    | [u], [v], _ => exact .of_eq (h kV doc pm an cdv ct u v)
    | [], _, hl => simp [kperm_1_0] at hl
    | [_], [], hl => simp [kperm_1_0] at hl
    | [_], _ :: _ :: _, hl => simp [kperm_1_0] at hl
    | _ :: _ :: _, _, hl => simp [kperm_1_0] at hl
  · cases r with
    | nil => exact .nil
    | cons a r =>
      cases r with
      | cons _ _ => exact .nil
      | nil =>
        cases r2 with
        | nil => exact .nil
        | cons b r2 =>
          cases r2 with
          | nil => exact .cons a (.cons b .nil)
          | cons _ _ => exact .nil
end

/-! ### isinstance against an own class -/
structure TyC (K : PySem.W.Frag) (C : Addr) : Prop where
  cl : Cls K C
  hc : PySem.W.findIn K (.ref C) "__class__" = some (some (.builtin "object.__class__"))
  hn : PySem.W.specialIn K (.builtin "object.__class__") "__get__" = some (some (.builtin "getset_descriptor.__get__"))
  ht : PySem.W.takesIn K (.builtin "object.__class__") = some true
  mo : PySem.W.mroIn K C (.type "object") = some true
  ic : PySem.W.isClsIn K C = true
  ty : PySem.W.typeIn K (.ref C) = some (.type "type")
theorem TyC.at {K : PySem.W.Frag} {C : Addr} (T : TyC K C) {H : Hp} {a dx : Addr} {fs : List (Str × V)} (e : H a = some (.ins C dx fs)) : TyOf K H (.ref a) (.ref C) := .ins e T.cl T.hc T.hn T.ht T.mo
theorem kit_self {K : PySem.W.Frag} {C : Addr} : PySem.W.kitOne K (.ref C) (.ref C) = some true := by
  unfold PySem.W.kitOne
  rw [if_pos (by simp)]
theorem TyC.kit {K : PySem.W.Frag} {C : Addr} (T : TyC K C) {t : Value} {b : Bool} (h : PySem.W.subIn K t (.ref C) = some b) (hne : (t == .ref C) = false) : PySem.W.kitOne K t (.ref C) = some b := by
  unfold PySem.W.kitOne
  rw [if_neg (by rw [hne]; decide)]
  unfold PySem.W.kitCls
  have h1 : (PySem.W.clsIn K C).isSome = true := T.ic
  have e : ((PySem.W.clsIn K C).isSome && PySem.W.typeIn K (.ref C) == some (.type "type")) = true := by
    rw [h1, T.ty] <;> rfl
  show (if ((PySem.W.clsIn K C).isSome && PySem.W.typeIn K (.ref C) == some (.type "type")) = true then PySem.W.subIn K t (.ref C) else none) = some b
  rw [if_pos e, h]
end Hk

/-! The readings, step by step: one lemma a combinator, and words that try them. -/
namespace Hk
open PySem PySem.Spec PyProof.Rows L2

theorem cxK {CX : CXT} {P : Program} {w : World} {K : PySem.W.Frag} {mg : Str → Option Value} {base : Heap} {N : List Str} {qual : Str} {scope : Scope} {f : Addr} {cd : Value} {A : Around} {outer : List Env} {s : Shared} {H : Hp} {E : XK} :
    (cxOf CX P w K mg base N qual scope f cd A outer s H E).K = K := rfl

/-! ### names for the built-ins' readings -/
def rLenSeq (K : PySem.W.Frag) : List V → Hp → VK → Prop := fun xs H Q => ∃ p ys, xs = [.ref p] ∧ (SqL K H p ys ∨ SqT K H p ys) ∧ Q (.int ys.length) H
theorem call_lenSeq {X : Cx} : CallR X (.builtin "len") (rLenSeq X.K) := call_len_seq
def rLenStr : List V → Hp → VK → Prop := fun xs H Q => ∃ z, xs = [.str z] ∧ z.length ≤ sizeLine ∧ Q (.int z.length) H
theorem call_lenStr {X : Cx} : CallR X (.builtin "len") rLenStr := call_len_str
def rAbs : List V → Hp → VK → Prop := fun xs H Q => ∃ i, xs = [.int i] ∧ Q (.int (if i < 0 then -i else i)) H
theorem call_absI {X : Cx} : CallR X (.builtin "abs") rAbs := call_abs
def rInt1 : List V → Hp → VK → Prop := fun xs H Q => (∃ i, xs = [.int i] ∧ Q (.int i) H) ∨ ∃ k, xs = [.bl k] ∧ Q (.int (if k then 1 else 0)) H
theorem call_intI {X : Cx} : CallR X (.type "int") rInt1 := call_int1
def rMaxI : List V → Hp → VK → Prop := fun xs H Q => ∃ i j, xs = [.int i, .int j] ∧ Q (.int (if j > i then j else i)) H
theorem call_maxI {X : Cx} (hc : X.calm = true) : CallR X (.builtin "max") rMaxI := call_max2 hc
def rMinI : List V → Hp → VK → Prop := fun xs H Q => ∃ i j, xs = [.int i, .int j] ∧ Q (.int (if j < i then j else i)) H
theorem call_minI {X : Cx} (hc : X.calm = true) : CallR X (.builtin "min") rMinI := call_min2 hc
def rStrS : List V → Hp → VK → Prop := fun xs H Q => ∃ a, xs = [.str a] ∧ Q (.str a) H
theorem call_strS {X : Cx} : CallR X (.type "str") rStrS := SkE.call_str_str
def rListOf (K : PySem.W.Frag) : List V → Hp → VK → Prop := fun xs H Q => ∃ p ys, xs = [.ref p] ∧ (SqL K H p ys ∨ SqT K H p ys) ∧ ∀ l, H l = none → Q (.ref l) (upd H l (.lst ys))
theorem call_listOf {X : Cx} : CallR X (.type "list") (rListOf X.K) := call_list_of
def rTupOf (K : PySem.W.Frag) : List V → Hp → VK → Prop := fun xs H Q => ∃ p ys, xs = [.ref p] ∧ ((SqL K H p ys ∧ ∀ l, H l = none → Q (.ref l) (upd H l (.tup ys))) ∨ (SqT K H p ys ∧ Q (.ref p) H))
theorem call_tupOf {X : Cx} : CallR X (.type "tuple") (rTupOf X.K) := call_tuple_of
def rAddStr : R2 := fun x y H Q => ∃ i j, x = .str i ∧ y = .str j ∧ i.length + j.length ≤ sizeLine ∧ Q (.str (i ++ j)) H
theorem op_addStr {X : Cx} : OpR X (binaryOp .Add) rAddStr := op_add_str
def rInSign : R2 := fun x y H Q => ∃ (c : Nat) (z : Str), x = .str ⟨#[c]⟩ ∧ y = .str z ∧ Q (.bl (decide (c ∈ z.cps.toList))) H
theorem op_inSign {X : Cx} : OpR X (compareOp .In) rInSign := op_in_sign
def rNotInSign : R2 := fun x y H Q => ∃ (c : Nat) (z : Str), x = .str ⟨#[c]⟩ ∧ y = .str z ∧ Q (.bl (!decide (c ∈ z.cps.toList))) H
theorem op_notInSign {X : Cx} : OpR X (compareOp .NotIn) rNotInSign := op_notIn_sign
def rIsNone : R2 := fun x y H Q => y = .non ∧ Q (.bl (decide (x = .non))) H
def rNotNone : R2 := fun x y H Q => y = .non ∧ Q (.bl (!decide (x = .non))) H
theorem op_isNone {X : Cx} : OpR X (compareOp .Is) rIsNone := op_isN
theorem op_notNone {X : Cx} : OpR X (compareOp .IsNot) rNotNone := op_notN

/-! ### heaps -/
section
variable {H H1 H2 : Hp} {p q : Addr} {o u : HO}
theorem upd_new (hq : H q = none) (h : H p = some o) : upd H q u p = some o := by
  rw [upd_ne (ne_of_none h hq)]
  exact h
theorem upd_old (hq : p ≠ q) (h : H p = some o) : upd H q u p = some o := by
  rw [upd_ne hq]
  exact h
theorem upd_oldN (hq : p ≠ q) (h : H p = none) : upd H q u p = none := by
  rw [upd_ne hq]
  exact h
theorem ne_new (hq : H q = none) (h : H p = some o) : p ≠ q := ne_of_none h hq
theorem ne_new' (hq : H q = none) (h : H p = some o) : q ≠ p := (ne_of_none h hq).symm
theorem same_new (h : H q = none) : Same H (upd H q u) := fun b o e => upd_new h e
theorem same_mut (e : Same H H1) (h : H q = none) : Same H (upd H1 q u) := fun b o z => by
  rw [upd_ne (ne_of_none z h)]
  exact e b o z
theorem same_ext (e : Same H H1) (h : H1 q = none) : Same H (upd H1 q u) := e.trans (same_new h)
theorem same_step (e : Same H1 H2) (h : Same H H1) : Same H H2 := h.trans e
theorem same_at (e : Same H H1) (h : H p = some o) : H1 p = some o := e _ _ h
theorem same_none (e : Same H H1) (h : H1 q = none) : H q = none := e.free h
theorem sqL_of {K : PySem.W.Frag} {xs : List V} (h : H p = some (.lst xs)) : SqL K H p xs := .inl (.inl h)
theorem sqT_of {K : PySem.W.Frag} {xs : List V} (h : H p = some (.tup xs)) : SqT K H p xs := .inl (.inl h)
theorem sqT_same {K : PySem.W.Frag} {xs : List V} (e : Same H H1) (h : SqT K H p xs) : SqT K H1 p xs := by
  rcases h with (h | ⟨o, h⟩) | h
  · exact .inl (.inl (e _ _ h))
  · exact .inl (.inr ⟨o, e _ _ h⟩)
  · exact .inr h
/-- a list that is read, behind a store elsewhere -/
theorem sqL_upd {K : PySem.W.Frag} {xs : List V} (hq : p ≠ q) (h : SqL K H p xs) : SqL K (upd H q u) p xs := by
  rcases h with (h | ⟨o, h⟩) | h
  · exact .inl (.inl (upd_old hq h))
  · exact .inl (.inr ⟨o, upd_old hq h⟩)
  · exact .inr h
/-- .. of something that is no list -/
theorem sqL_new {K : PySem.W.Frag} {xs : List V} (hq : H q = none) (h : SqL K H p xs) : SqL K (upd H q u) p xs := (same_new hq).seq h
end

/-! ### readings -/
section
variable {K : PySem.W.Frag} {σ : L2.St} {H : Hp} {Q : VK} {ta tb te tv : TE} {t u : TT} {v x y : V} {D : Ends} {nx bk ct : L2.St → Hp → Prop} {rt : VK} {t1 t2 tu : TS} {tt : TA} {g : TG} {i j : Int} {n : Nat} {f : Str} {b : Bool} {QB : Bool → Hp → Prop} {QA : List V → Hp → Prop} {k : L2.St → Hp → Prop}
theorem rd_seq (h : t1 ⟨t2 ⟨nx, rt, bk, ct⟩, rt, bk, ct⟩ σ H) : tSeq t1 t2 ⟨nx, rt, bk, ct⟩ σ H := h
theorem rd_cut (M : L2.St → Hp → Prop) (h : t1 ⟨M, rt, bk, ct⟩ σ H) (q : ∀ σ' H', M σ' H' → t2 ⟨nx, rt, bk, ct⟩ σ' H') : Evl.tCut t1 t2 ⟨nx, rt, bk, ct⟩ σ H := ⟨M, h, q⟩
theorem rd_asgN {m : Nat} (h : te σ H fun x H1 => t2 ⟨nx, rt, bk, ct⟩ (σ.set m (some x)) H1) : tSeq (tAsg te (gName m)) t2 ⟨nx, rt, bk, ct⟩ σ H := h
theorem rd_next (h : nx σ H) : tNext ⟨nx, rt, bk, ct⟩ σ H := h
theorem rd_asg (h : te σ H fun x H1 => g x σ H1 nx) : tAsg te g ⟨nx, rt, bk, ct⟩ σ H := h
theorem rd_gname (h : k (σ.set n (some v)) H) : gName n v σ H k := h
theorem rd_drop (h : te σ H fun _ H1 => nx σ H1) : tDrop te ⟨nx, rt, bk, ct⟩ σ H := h
theorem rd_ret (h : te σ H rt) : tRet te ⟨nx, rt, bk, ct⟩ σ H := h
theorem rd_retN (h : rt .non H) : tRetN ⟨nx, rt, bk, ct⟩ σ H := h
theorem rd_brk (h : bk σ H) : tBreak ⟨nx, rt, bk, ct⟩ σ H := h
theorem rd_cont (h : ct σ H) : tCont ⟨nx, rt, bk, ct⟩ σ H := h
theorem rd_ifS {c : TT} (h : c σ H fun b H1 => if b = true then t1 ⟨nx, rt, bk, ct⟩ σ H1 else t2 ⟨nx, rt, bk, ct⟩ σ H1) : tIfS c t1 t2 ⟨nx, rt, bk, ct⟩ σ H := h
theorem rd_parA {n m : Nat} (h : tt σ H fun vs H1 => ∃ v w, vs = [v, w] ∧ nx ((σ.set n (some v)).set m (some w)) H1) : tPar n m tt ⟨nx, rt, bk, ct⟩ σ H := h
theorem rd_par3A {n m l : Nat} (h : tt σ H fun vs H1 => ∃ u v w, vs = [u, v, w] ∧ nx (((σ.set n (some u)).set m (some v)).set l (some w)) H1) : tPar3 n m l tt ⟨nx, rt, bk, ct⟩ σ H := h
theorem rd_par3 {u v w : V} {P : V → V → V → Prop} (h : P u v w) : ∃ u' v' w', [u, v, w] = [u', v', w'] ∧ P u' v' w' := ⟨u, v, w, rfl, h⟩
theorem rd_whileN {c : TT} {tb : TS} (W : Nat → L2.St → Hp → Prop) (m : Nat) (w0 : W m σ H) (hs : ∀ m σ H, W m σ H → c σ H fun b H1 => if b = true then ∃ N : L2.St → Hp → Prop, (∀ σ' H', N σ' H' → ∃ m', m' < m ∧ W m' σ' H') ∧ tb ⟨N, rt, nx, N⟩ σ H1 else nx σ H1) : tWhile c tb ⟨nx, rt, bk, ct⟩ σ H := ⟨W, ⟨m, w0⟩, hs⟩
theorem rd_par2 {v w : V} {P : V → V → Prop} (h : P v w) : ∃ v' w', [v, w] = [v', w'] ∧ P v' w' := ⟨v, w, rfl, h⟩
theorem rd_var (e : σ[n]? = some (some v)) (h : Q v H) : tVar n σ H Q := ⟨v, e, h⟩
theorem rd_c (h : Q v H) : tC v σ H Q := h
theorem rd_op {r : R2} (h : ta σ H fun x H1 => tb σ H1 fun y H2 => r x y H2 Q) : tOp r ta tb σ H Q := h
theorem rd_un {r : V → Hp → VK → Prop} (h : ta σ H fun x H1 => r x H1 Q) : tUn r ta σ H Q := h
theorem rd_cb {r : List V → Hp → VK → Prop} (h : tt σ H fun vs H1 => r vs H1 Q) : tCB r tt σ H Q := h
theorem rd_cons (h : te σ H fun x H1 => tt σ H1 fun xs H2 => QA (x :: xs) H2) : tCons te tt σ H QA := h
theorem rd_nil (h : QA [] H) : tNil σ H QA := h
theorem rd_test (h : te σ H fun x H' => ∃ k, x = .bl k ∧ QB k H') : tTest te σ H QB := h
theorem rd_B (h : te σ H fun x H' => ∃ k, x = .bl k ∧ QB k H') : tB te σ H QB := h
theorem rd_bl {P : Bool → Prop} (h : P b) : ∃ k, V.bl b = .bl k ∧ P k := ⟨b, rfl, h⟩
theorem rd_and (h : t σ H fun c H1 => if c = true then u σ H1 QB else QB false H1) : tAnd t u σ H QB := h
theorem rd_or (h : t σ H fun c H1 => if c = true then QB true H1 else u σ H1 QB) : tOr t u σ H QB := h
theorem rd_not (h : t σ H fun c H1 => QB (!c) H1) : tNot t σ H QB := h
theorem rd_andV (h : ta σ H fun x H1 => ∃ c, x = .bl c ∧ if c = true then tb σ H1 Q else Q (.bl false) H1) : tAndV ta tb σ H Q := h
theorem rd_orV (h : ta σ H fun x H1 => ∃ c, x = .bl c ∧ if c = true then Q (.bl true) H1 else tb σ H1 Q) : tOrV ta tb σ H Q := h
theorem rd_notV (h : ta σ H fun x H1 => ∃ c, x = .bl c ∧ Q (.bl (!c)) H1) : tNotV ta σ H Q := h
theorem rd_if (h : t σ H fun c H1 => if c = true then ta σ H1 Q else tb σ H1 Q) : tIf t ta tb σ H Q := h
theorem rd_I0 {g : Int → Int → V} (h : Q (g i j) H) : rI0 g (.int i) (.int j) H Q := ⟨i, j, rfl, rfl, h⟩
theorem rd_I {C : Int → Int → Prop} {g : Int → Int → V} (c : C i j) (h : Q (g i j) H) : rI C g (.int i) (.int j) H Q := ⟨i, j, rfl, rfl, c, h⟩
theorem rd_mod (c : 0 < j) (h : Q (.int (i % j)) H) : rI (fun _ j => 0 < j) (fun i j => .int (i % j)) (.int i) (.int j) H Q := ⟨i, j, rfl, rfl, c, h⟩
theorem cdivW (h : 0 < j) (hb : j < 2 ^ 100) : CDivW i j := wide_div (b := 100) h (by
  have e : ((2 : Int) ^ 100) = ((2 ^ 100 : Nat) : Int) := by decide
  rw [e] at hb
  omega) (by decide) (by decide)
theorem rd_div (c : 0 < j) (c2 : j < 2 ^ 100) (h : Q (.int (i / j)) H) : rI CDivW (fun i j => .int (i / j)) (.int i) (.int j) H Q := ⟨i, j, rfl, rfl, cdivW c c2, h⟩
theorem rd_mulR (c : -(2 ^ 64) < j) (c2 : j < 2 ^ 64) (h : Q (.int (i * j)) H) : rI CMul (fun i j => .int (i * j)) (.int i) (.int j) H Q := ⟨i, j, rfl, rfl, .inr ⟨c, c2⟩, h⟩
theorem rd_mulL (c : -(2 ^ 64) < i) (c2 : i < 2 ^ 64) (h : Q (.int (i * j)) H) : rI CMul (fun i j => .int (i * j)) (.int i) (.int j) H Q := ⟨i, j, rfl, rfl, .inl ⟨c, c2⟩, h⟩
theorem rd_pow (c : CPow i j) (h : Q (.int (i ^ j.toNat)) H) : rI CPow (fun i j => .int (i ^ j.toNat)) (.int i) (.int j) H Q := ⟨i, j, rfl, rfl, c, h⟩
theorem rd_U {g : Int → V} (h : Q (g i) H) : rU g (.int i) H Q := ⟨i, rfl, h⟩
theorem rd_eq (e : scal x y = true) (h : Q (.bl (decide (x = y))) H) : rEq x y H Q := ⟨e, h⟩
theorem rd_ne (e : scal x y = true) (h : Q (.bl (!decide (x = y))) H) : rNe x y H Q := ⟨e, h⟩
theorem rd_isNone (h : Q (.bl (decide (x = .non))) H) : rIsNone x .non H Q := ⟨rfl, h⟩
theorem rd_notNone (h : Q (.bl (!decide (x = .non))) H) : rNotNone x .non H Q := ⟨rfl, h⟩
theorem rd_ixL {p : Addr} {xs : List V} (h : SqL K H p xs) (e : atI xs i = some v) (q : Q v H) : rIxL K (.ref p) (.int i) H Q := ⟨p, xs, i, v, rfl, rfl, h, e, q⟩
theorem rd_ixT {p : Addr} {xs : List V} (h : SqT K H p xs) (e : atI xs i = some v) (q : Q v H) : rIxT K (.ref p) (.int i) H Q := ⟨p, xs, i, v, rfl, rfl, h, e, q⟩
theorem rd_ixS {z : Str} {c : Nat} (hz : z.length ≤ sizeLine) (e : atI z.cps.toList i = some c) (q : Q (.str ⟨#[c]⟩) H) : rIxS (.str z) (.int i) H Q := ⟨z, i, c, rfl, rfl, hz, e, q⟩
theorem rd_lenL {p : Addr} {xs : List V} (h : SqL K H p xs) (q : Q (.int xs.length) H) : rLenSeq K [.ref p] H Q := ⟨p, xs, rfl, .inl h, q⟩
theorem rd_lenT {p : Addr} {xs : List V} (h : SqT K H p xs) (q : Q (.int xs.length) H) : rLenSeq K [.ref p] H Q := ⟨p, xs, rfl, .inr h, q⟩
theorem rd_lenS {z : Str} (hz : z.length ≤ sizeLine) (q : Q (.int z.length) H) : rLenStr [.str z] H Q := ⟨z, rfl, hz, q⟩
theorem rd_abs (q : Q (.int (if i < 0 then -i else i)) H) : rAbs [.int i] H Q := ⟨i, rfl, q⟩
theorem rd_int (q : Q (.int i) H) : rInt1 [.int i] H Q := .inl ⟨i, rfl, q⟩
theorem rd_max (q : Q (.int (if j > i then j else i)) H) : rMaxI [.int i, .int j] H Q := ⟨i, j, rfl, q⟩
theorem rd_min (q : Q (.int (if j < i then j else i)) H) : rMinI [.int i, .int j] H Q := ⟨i, j, rfl, q⟩
theorem rd_strS {z : Str} (q : Q (.str z) H) : rStrS [.str z] H Q := ⟨z, rfl, q⟩
theorem rd_listL {p : Addr} {xs : List V} (h : SqL K H p xs) (q : ∀ l, H l = none → Q (.ref l) (upd H l (.lst xs))) : rListOf K [.ref p] H Q := ⟨p, xs, rfl, .inl h, q⟩
theorem rd_listT {p : Addr} {xs : List V} (h : SqT K H p xs) (q : ∀ l, H l = none → Q (.ref l) (upd H l (.lst xs))) : rListOf K [.ref p] H Q := ⟨p, xs, rfl, .inr h, q⟩
theorem rd_tupL {p : Addr} {xs : List V} (h : SqL K H p xs) (q : ∀ l, H l = none → Q (.ref l) (upd H l (.tup xs))) : rTupOf K [.ref p] H Q := ⟨p, xs, rfl, .inl ⟨h, q⟩⟩
theorem rd_tupT {p : Addr} {xs : List V} (h : SqT K H p xs) (q : Q (.ref p) H) : rTupOf K [.ref p] H Q := ⟨p, xs, rfl, .inr ⟨h, q⟩⟩
theorem rd_addS {z w : Str} (hz : z.length + w.length ≤ sizeLine) (q : Q (.str (z ++ w)) H) : rAddStr (.str z) (.str w) H Q := ⟨z, w, rfl, rfl, hz, q⟩
theorem rd_inSign {c : Nat} {z : Str} (q : Q (.bl (decide (c ∈ z.cps.toList))) H) : rInSign (.str ⟨#[c]⟩) (.str z) H Q := ⟨c, z, rfl, rfl, q⟩
theorem rd_notInSign {c : Nat} {z : Str} (q : Q (.bl (!decide (c ∈ z.cps.toList))) H) : rNotInSign (.str ⟨#[c]⟩) (.str z) H Q := ⟨c, z, rfl, rfl, q⟩
theorem rd_tup (h : tt σ H fun xs H1 => xs.length ≤ sizeLine ∧ ∀ p, H1 p = none → Q (.ref p) (upd H1 p (.tup xs))) : tTup tt σ H Q := h
theorem rd_lst (h : tt σ H fun xs H1 => xs.length ≤ sizeLine ∧ ∀ p, H1 p = none → Q (.ref p) (upd H1 p (.lst xs))) : tLst tt σ H Q := h
theorem sz_of {n : Nat} (h : n ≤ 100000) : n ≤ sizeLine := Nat.le_trans h (by decide)
theorem sz_lt {n : Nat} (h : n < 100000) : n < sizeLine := Nat.lt_of_lt_of_le h (by decide)
theorem rd_new {xs : List V} {P : Addr → Prop} (e : xs.length ≤ sizeLine) (h : ∀ p, P p) : xs.length ≤ sizeLine ∧ ∀ p, P p := ⟨e, h⟩
theorem rd_slL {p : Addr} {xs : List V} {lo hi : Option Int} (h : SqL K H p xs) (q : ∀ l, H l = none → Q (.ref l) (upd H l (.lst (cutV xs lo hi)))) : rSlL K (.ref p) lo hi H Q := ⟨p, xs, rfl, h, q⟩
theorem rd_slS {z : Str} {lo hi : Option Int} (hz : z.length ≤ sizeLine) (q : Q (.str (cutS z lo hi)) H) : rSlS (.str z) lo hi H Q := ⟨z, rfl, hz, q⟩
theorem rd_sl {r : V → Option Int → Option Int → Hp → VK → Prop} {tl th : TO} (h : te σ H fun x H1 => tl σ H1 fun l H2 => th σ H2 fun u H3 => r x l u H3 Q) : tSl r te tl th σ H Q := h
theorem rd_noPart {P : Option Int → Hp → Prop} (h : P none H) : tNoPart σ H P := h
theorem rd_part {P : Option Int → Hp → Prop} (h : te σ H fun x H1 => ∃ i, x = .int i ∧ P (some i) H1) : tPart te σ H P := h
theorem rd_isInt {P : Int → Prop} (h : P i) : ∃ k, V.int i = .int k ∧ P k := ⟨i, rfl, h⟩
/-- an attribute -/
def FldK (K : PySem.W.Frag) (f : Str) (x : V) (H : Hp) (Q : VK) : Prop := ∃ a C dx fs v, x = .ref a ∧ H a = some (.ins C dx fs) ∧ Cls K C ∧ NoAttr K C f ∧ fs.lookup f = some v ∧ Q v H
theorem rd_fld (h : ta σ H fun x H1 => FldK K f x H1 Q) : tFld K ta f σ H Q := h
theorem rd_fldK {a C dx : Addr} {fs : List (Str × V)} (e : H a = some (.ins C dx fs)) (c : Cls K C) (n : NoAttr K C f) (l : fs.lookup f = some v) (q : Q v H) : FldK K f (.ref a) H Q := ⟨a, C, dx, fs, v, rfl, e, c, n, l, q⟩
def SFldK (K : PySem.W.Frag) (f : Str) (y x : V) (H : Hp) (P : Hp → Prop) : Prop := ∃ a C dx fs, x = .ref a ∧ H a = some (.ins C dx fs) ∧ Cls K C ∧ NoAttr K C f ∧ fs.length < 1000 ∧ P (upd H a (.ins C dx (putF f y fs)))
theorem rd_sfld (h : tv σ H fun y H1 => ta σ H1 fun x H2 => SFldK K f y x H2 (nx σ)) : sFld K ta tv f ⟨nx, rt, bk, ct⟩ σ H := h
theorem rd_sfldK {a C dx : Addr} {fs : List (Str × V)} {P : Hp → Prop} (e : H a = some (.ins C dx fs)) (c : Cls K C) (n : NoAttr K C f) (l : fs.length < 1000) (q : P (upd H a (.ins C dx (putF f y fs)))) : SFldK K f y (.ref a) H P := ⟨a, C, dx, fs, rfl, e, c, n, l, q⟩
/-- e.f += n, ints -/
theorem rd_sfldAdd {a C dx : Addr} {fs : List (Str × V)} (ha : ta σ H fun x H1 => x = .ref a ∧ H1 = H) (e : H a = some (.ins C dx fs)) (c : Cls K C) (n : NoAttr K C f) (l : fs.lookup f = some (.int i)) (hv : tv σ H fun y H1 => y = .int j ∧ H1 = H)
    (mt : ∀ Q Q' : VK, (∀ v H, Q v H → Q' v H) → tv σ H Q → tv σ H Q') (ma : ∀ Q Q' : VK, (∀ v H, Q v H → Q' v H) → ta σ H Q → ta σ H Q') (hl : fs.length < 1000) (q : D.nx σ (upd H a (.ins C dx (putF f (.int (i + j)) fs)))) : sFldAug K ta tv rAdd f D σ H :=
  ma _ _ (fun x H1 ⟨ex, eh⟩ => by
    subst ex eh
    refine ⟨a, C, dx, fs, .int i, rfl, e, c, n, l, mt _ _ (fun y H2 ⟨ey, eh⟩ => ?_) hv⟩
    subst ey eh
    exact ⟨i, j, rfl, rfl, dx, fs, e, hl, q⟩) ha
def AugK (K : PySem.W.Frag) (f : Str) (tv : TE) (rd : V → V → Hp → VK → Prop) (σ : L2.St) (x : V) (H1 : Hp) (P : Hp → Prop) : Prop := ∃ a C dx fs v, x = .ref a ∧ H1 a = some (.ins C dx fs) ∧ Cls K C ∧ NoAttr K C f ∧ fs.lookup f = some v ∧
  tv σ H1 fun y H2 => rd v y H2 fun z H3 => ∃ dx' fs', H3 a = some (.ins C dx' fs') ∧ fs'.length < 1000 ∧ P (upd H3 a (.ins C dx' (putF f z fs')))
theorem rd_aug {rd : V → V → Hp → VK → Prop} (h : ta σ H fun x H1 => AugK K f tv rd σ x H1 (nx σ)) : sFldAug K ta tv rd f ⟨nx, rt, bk, ct⟩ σ H := h
theorem rd_augK {rd : V → V → Hp → VK → Prop} {a C dx : Addr} {fs : List (Str × V)} {P : Hp → Prop} (e : H a = some (.ins C dx fs)) (c : Cls K C) (n : NoAttr K C f) (l : fs.lookup f = some v)
    (q : tv σ H fun y H2 => rd v y H2 fun z H3 => ∃ dx' fs', H3 a = some (.ins C dx' fs') ∧ fs'.length < 1000 ∧ P (upd H3 a (.ins C dx' (putF f z fs')))) : AugK K f tv rd σ (.ref a) H P := ⟨a, C, dx, fs, v, rfl, e, c, n, l, q⟩
theorem rd_rAdd (q : Q (.int (i + j)) H) : rAdd (.int i) (.int j) H Q := ⟨i, j, rfl, rfl, q⟩
theorem rd_augE {a C dx : Addr} {fs : List (Str × V)} {P : Addr → List (Str × V) → Prop} (e : H a = some (.ins C dx fs)) (l : fs.length < 1000) (q : P dx fs) : ∃ dx' fs', H a = some (.ins C dx' fs') ∧ fs'.length < 1000 ∧ P dx' fs' := ⟨dx, fs, e, l, q⟩
/-- calls -/
theorem rd_call {sp : Sp} {E : XK} (h : tt σ H fun vs H1 => sp (vs ++ []) H1 Q E) : tCall sp [] E tt σ H Q := h
def MethK (C : Addr) (m : Str) (sp : Sp) (E : XK) (t : TA) (σ : L2.St) (x : V) (H1 : Hp) (Q : VK) : Prop := ∃ a dx fs, x = .ref a ∧ H1 a = some (.ins C dx fs) ∧ fs.lookup m = none ∧ t σ H1 fun vs H2 => sp (x :: (vs ++ [])) H2 Q E
theorem rd_meth {C : Addr} {m : Str} {sp : Sp} {E : XK} (h : ta σ H fun x H1 => MethK C m sp E tt σ x H1 Q) : tMeth C m sp [] E ta tt σ H Q := h
theorem rd_methK {C a dx : Addr} {m : Str} {sp : Sp} {E : XK} {fs : List (Str × V)} (e : H a = some (.ins C dx fs)) (l : fs.lookup m = none) (q : tt σ H fun vs H2 => sp (.ref a :: (vs ++ [])) H2 Q E) : MethK C m sp E tt σ (.ref a) H Q := ⟨a, dx, fs, rfl, e, l, q⟩
theorem rd_make {C : Addr} {sp : Sp} {E : XK} (h : tt σ H fun vs H1 => ∀ x dx, H1 x = none → H1 dx = none → dx ≠ x → sp (.ref x :: (vs ++ [])) (upd (upd H1 dx (.own x)) x (.ins C dx [])) (fun v H2 => v = .non ∧ Q (.ref x) H2) E) : tMake C sp [] E tt σ H Q := h
theorem rd_makeL {C : Addr} {sp : Sp} {E : XK} (e : σ[n]? = some (some (.ref C))) (h : tMake C sp [] E tt σ H Q) : tMakeL n C sp E tt σ H Q := ⟨e, h⟩
theorem rd_smeth {C : Addr} {sp : Sp} {E : XK} (h : ta σ H fun x H1 => x = .ref C ∧ tt σ H1 fun vs H2 => sp (vs ++ []) H2 Q E) : tSMeth C sp E ta tt σ H Q := h
theorem rd_isC {C : Addr} {P : Prop} (h : P) : V.ref C = .ref C ∧ P := ⟨rfl, h⟩
theorem rd_smethK {C : Addr} {sp : Sp} {E : XK} {gV : List V → List V → List V} (h : ta σ H fun x H1 => x = .ref C ∧ tt σ H1 fun zs H2 => sp (gV [] zs) H2 Q E) : tSMethK C sp gV E ta tt σ H Q := h
theorem rd_cmeth {C : Addr} {sp : Sp} {E : XK} (h : ta σ H fun x H1 => x = .ref C ∧ tt σ H1 fun vs H2 => sp (.ref C :: vs) H2 Q E) : ClX.tCMeth C sp E ta tt σ H Q := h
theorem rd_cmethK {C : Addr} {sp : Sp} {E : XK} {gV : List V → List V → List V} (h : ta σ H fun x H1 => x = .ref C ∧ tt σ H1 fun zs H2 => sp (gV [.ref C] zs) H2 Q E) : tCMethK C sp gV E ta tt σ H Q := h
/-- methods of built-in types -/
def BmK (K : PySem.W.Frag) (T : String) (r : V → List V → Hp → VK → Prop) (t : TA) (σ : L2.St) (x : V) (H1 : Hp) (Q : VK) : Prop := tyV K T x H1 ∧ t σ H1 fun xs H2 => r x xs H2 Q
theorem rd_bm {T : String} {r : V → List V → Hp → VK → Prop} (h : ta σ H fun x H1 => BmK K T r tt σ x H1 Q) : tBM K T r ta tt σ H Q := h
theorem rd_bmL {r : V → List V → Hp → VK → Prop} {p : Addr} {xs : List V} (e : H p = some (.lst xs)) (q : tt σ H fun xs H2 => r (.ref p) xs H2 Q) : BmK K "list" r tt σ (.ref p) H Q := ⟨.inl ⟨rfl, _, SqL.of e⟩, q⟩
def Bm0K (K : PySem.W.Frag) (T : String) (r : V → List V → Hp → VK → Prop) (x : V) (H1 : Hp) (Q : VK) : Prop := tyV K T x H1 ∧ r x [] H1 Q
theorem rd_bm0 {T : String} {r : V → List V → Hp → VK → Prop} (h : ta σ H fun x H1 => Bm0K K T r x H1 Q) : tBM0 K T r ta σ H Q := h
theorem rd_bm0L {r : V → List V → Hp → VK → Prop} {p : Addr} {xs : List V} (e : H p = some (.lst xs)) (q : r (.ref p) [] H Q) : Bm0K K "list" r (.ref p) H Q := ⟨.inl ⟨rfl, _, SqL.of e⟩, q⟩
theorem rd_append {p : Addr} {xs : List V} (e : H p = some (.lst xs)) (l : xs.length < sizeLine) (q : Q .non (upd H p (.lst (xs ++ [y])))) : rAppend (.ref p) [y] H Q := ⟨p, xs, y, rfl, rfl, e, l, q⟩
theorem rd_clear {p : Addr} {xs : List V} (e : H p = some (.lst xs)) (q : Q .non (upd H p (.lst []))) : rClear (.ref p) [] H Q := ⟨p, xs, rfl, rfl, e, q⟩
theorem rd_pop {p : Addr} {xs : List V} (e : H p = some (.lst xs)) (l : xs[xs.length - 1]? = some y) (q : Q y (upd H p (.lst xs.dropLast))) : rPop (.ref p) [] H Q := ⟨p, xs, y, rfl, rfl, e, l, q⟩
theorem rd_popAt {p : Addr} {xs : List V} {k : Nat} (e : H p = some (.lst xs)) (hk : xs[k]? = some y) (hb : xs.length ≤ 100000) (q : Q y (upd H p (.lst (xs.eraseIdx k)))) : rPopAt (.ref p) [.int (k : Nat)] H Q := by
  have hl := (List.getElem?_eq_some_iff.mp hk).1
  refine ⟨p, xs, (k : Nat), k, y, rfl, rfl, e, by omega, by omega, ?_, hk, q⟩
  unfold seqIndex?
  have hn : ¬ ((k : Nat) : Int) < 0 := by omega
  simp only [if_neg hn]
  simp
  omega
theorem rd_cat {p r : Addr} {xs ys : List V} (e : H p = some (.lst xs)) (e2 : H r = some (.lst ys)) (hb : xs.length + ys.length ≤ 100000) (q : ∀ l, H l = none → Q (.ref l) (upd H l (.lst (xs ++ ys)))) : rCat (.ref p) (.ref r) H Q := ⟨p, r, xs, ys, rfl, rfl, e, e2, sz_of hb, q⟩
theorem rd_all {p : Addr} {bs : List Bool} (h : SqL K H p (bs.map V.bl)) (q : Q (.bl (bs.all id)) H) : rAll K [.ref p] H Q := ⟨p, bs, rfl, h, q⟩
theorem rd_m1 {r : V → List V → Hp → VK → Prop} (h : ta σ H fun x H1 => (∃ a, x = .str a) ∧ tb σ H1 fun y H2 => r x [y] H2 Q) : tM1 r ta tb σ H Q := h
theorem rd_isStr {z : Str} {P : Prop} (h : P) : (∃ a, V.str z = .str a) ∧ P := ⟨⟨z, rfl⟩, h⟩
def CValK (K : PySem.W.Frag) (f : Str) (x : V) (H : Hp) (Q : VK) : Prop := ∃ C mc v u, x = .ref C ∧ ClX.CRead K C mc ∧ ClX.CVal K C mc f v u ∧ Q v H
theorem rd_cval (h : ta σ H fun x H1 => CValK K f x H1 Q) : ClX.tCVal K ta f σ H Q := h
theorem rd_cvalK {C : Addr} {mc u : Value} (r : ClX.CRead K C mc) (c : ClX.CVal K C mc f v u) (q : Q v H) : CValK K f (.ref C) H Q := ⟨C, mc, v, u, rfl, r, c, q⟩
theorem rd_setL {p : Addr} {xs : List V} {m : Nat} {P : Hp → Prop} (e : H p = some (.lst xs)) (l : ixN xs.length i = some m) (q : P (upd H p (.lst (xs.set m v)))) : rSetL (.ref p) (.int i) v H P := ⟨p, xs, i, m, rfl, rfl, e, l, q⟩
theorem rd_gsub {to ti : TE} {ts : TSet} (h : to σ H fun o H1 => ti σ H1 fun i H2 => ts o i v H2 fun H3 => k σ H3) : gSub to ti ts v σ H k := h
theorem rd_gtup {a : Addr} {xs : List V} {m : Nat} {ts : TGs} (e : SqT K H a xs) (l : xs.length = m) (q : ts xs σ H k) : gTup K m ts (.ref a) σ H k := ⟨a, xs, rfl, e, l, q⟩
theorem rd_gcons {r : List V} {ts : TGs} (h : g v σ H fun σ' H' => ts r σ' H' k) : gCons g ts (v :: r) σ H k := ⟨v, r, rfl, h⟩
theorem rd_gnil (h : k σ H) : gNil [] σ H k := ⟨rfl, h⟩
theorem rd_isi {x c : V} {t u : Value} (k : ClsV c u) (ty : TyX K H x t) (e : PySem.W.kitOne K t u = some b) (q : Q (.bl b) H) : rIsi K [x, c] H Q := ⟨x, c, t, u, b, rfl, k, ty, e, q⟩
theorem rd_inSeqL {p : Addr} {xs : List V} {neg : Bool} (h : SqL K H p xs) (fx : flatV x = true) (fa : xs.all flatV = true) (q : Q (.bl (if neg then !inV x xs else inV x xs)) H) : rIn K neg x (.ref p) H Q := ⟨p, xs, rfl, .inl h, fx, fa, q⟩
theorem rd_inSeqT {p : Addr} {xs : List V} {neg : Bool} (h : SqT K H p xs) (fx : flatV x = true) (fa : xs.all flatV = true) (q : Q (.bl (if neg then !inV x xs else inV x xs)) H) : rIn K neg x (.ref p) H Q := ⟨p, xs, rfl, .inr h, fx, fa, q⟩
theorem rd_eqD {d e : PyData} (hx : Dp K H x d) (hy : Dp K H y e) (s1 : SeqAt.shaped d = true) (s2 : SeqAt.shaped e = true) (q : Q (.bl (PyData.eqv d e)) H) : rEqD K x y H Q := ⟨d, e, hx, hy, s1, s2, q⟩
theorem rd_neD {d e : PyData} (hx : Dp K H x d) (hy : Dp K H y e) (s1 : SeqAt.shaped d = true) (s2 : SeqAt.shaped e = true) (q : Q (.bl (!PyData.eqv d e)) H) : rNeD K x y H Q := ⟨d, e, hx, hy, s1, s2, q⟩
theorem ifT {A B : Prop} (e : b = true) (h : A) : if b = true then A else B := by
  rw [if_pos e]
  exact h
theorem ifF {A B : Prop} (e : b = false) (h : B) : if b = true then A else B := by
  rw [e, if_neg Bool.false_ne_true]
  exact h
theorem ifB {A B : Prop} (h1 : b = true → A) (h2 : b = false → B) : if b = true then A else B := by
  cases b with
  | true => exact ifT rfl (h1 rfl)
  | false => exact ifF rfl (h2 rfl)
/-- an if on a decision -/
theorem ifD {c : Prop} [Decidable c] {A B : Prop} (h1 : c → A) (h2 : ¬ c → B) : if decide c = true then A else B := by
  by_cases h : c
  · exact ifT (decide_eq_true h) (h1 h)
  · exact ifF (decide_eq_false h) (h2 h)
theorem ifN {c : Prop} [Decidable c] {A B : Prop} (h1 : ¬ c → A) (h2 : c → B) : if (!decide c) = true then A else B := by
  by_cases h : c
  · exact ifF (by rw [decide_eq_true h]; rfl) (h2 h)
  · exact ifT (by rw [decide_eq_false h]; rfl) (h1 h)
end

/-! ### loops -/
def ForK (J : It) (g : TG) (tb : TS) (D : Ends) (σ : L2.St) (H1 : Hp) : Prop := ∃ W : Nat → Nat → L2.St → Hp → Prop, (∃ m, W 0 m σ H1) ∧ ∀ i m σ H, W i m σ H →
  (J.stop i H ∧ D.nx σ H) ∨ (J.go i H ∧ ∃ N : L2.St → Hp → Prop, (∀ σ' H', N σ' H' → ∃ m', m' < m ∧ W (i + 1) m' σ' H') ∧ ∀ x H', J.yld i H x H' → g x σ H' fun σ2 H2 => tb { D with nx := N, ct := N, bk := D.nx } σ2 H2)
section
variable {K : PySem.W.Frag} {σ : L2.St} {H : Hp} {g : TG} {tb : TS} {D : Ends} {nx bk ct : L2.St → Hp → Prop} {rt : VK} {a : Addr} {xs : List V} {tl : TE} {ta : TA} {R : It → Hp → Prop}
theorem rd_for {wi : TI} (h : wi σ H fun J H1 => ForK J g tb ⟨nx, rt, bk, ct⟩ σ H1) : tFor wi g tb ⟨nx, rt, bk, ct⟩ σ H := h
def IList (K : PySem.W.Frag) (x : V) (H : Hp) (R : It → Hp → Prop) : Prop := ∃ a, x = .ref a ∧ (∃ xs, SqL K H a xs) ∧ R (Itl K a) H
def ITup (K : PySem.W.Frag) (x : V) (H : Hp) (R : It → Hp → Prop) : Prop := ∃ a, x = .ref a ∧ (∃ xs, SqT K H a xs) ∧ R (Itt K a) H
theorem rd_iList (h : tl σ H fun x H1 => IList K x H1 R) : iList K tl σ H R := h
theorem rd_IList (h : SqL K H a xs) (q : R (Itl K a) H) : IList K (.ref a) H R := ⟨a, rfl, ⟨xs, h⟩, q⟩
theorem rd_iTup (h : tl σ H fun x H1 => ITup K x H1 R) : iTup K tl σ H R := h
theorem rd_ITup (h : SqT K H a xs) (q : R (Itt K a) H) : ITup K (.ref a) H R := ⟨a, rfl, ⟨xs, h⟩, q⟩
def IEnum (K : PySem.W.Frag) (vs : List V) (H : Hp) (R : It → Hp → Prop) : Prop := ∃ a xs, vs = [.ref a] ∧ SqL K H a xs ∧ R (Ite K a) H
theorem rd_iEnum (h : ta σ H fun vs H1 => IEnum K vs H1 R) : iEnum K ta σ H R := h
theorem rd_IEnum (h : SqL K H a xs) (q : R (Ite K a) H) : IEnum K [.ref a] H R := ⟨a, xs, rfl, h, q⟩
def IRng1 (vs : List V) (H : Hp) (R : It → Hp → Prop) : Prop := ∃ j : Int, vs = [.int j] ∧ -(2 ^ 62) ≤ j ∧ j < 2 ^ 62 ∧ R (Itr 0 j.toNat) H
theorem rd_iRng1 (h : ta σ H fun vs H1 => IRng1 vs H1 R) : iRng1 ta σ H R := h
theorem rd_IRng1 {j : Int} (h : -(2 ^ 62) ≤ j) (h2 : j < 2 ^ 62) (q : R (Itr 0 j.toNat) H) : IRng1 [.int j] H R := ⟨j, rfl, h, h2, q⟩
def IRng2 (vs : List V) (H : Hp) (R : It → Hp → Prop) : Prop := ∃ i j : Int, vs = [.int i, .int j] ∧ (-(2 ^ 62) ≤ i ∧ i < 2 ^ 62 ∧ -(2 ^ 62) ≤ j ∧ j < 2 ^ 62) ∧ R (Itr i (j - i).toNat) H
theorem rd_iRng2 (h : ta σ H fun vs H1 => IRng2 vs H1 R) : iRng2 ta σ H R := h
theorem rd_IRng2 {i j : Int} (h : -(2 ^ 62) ≤ i ∧ i < 2 ^ 62 ∧ -(2 ^ 62) ≤ j ∧ j < 2 ^ 62) (q : R (Itr i (j - i).toNat) H) : IRng2 [.int i, .int j] H R := ⟨i, j, rfl, h, q⟩
theorem fk_list (Pv : Nat → L2.St → Hp → Prop) (h0 : Pv 0 σ H) (hl : ∀ i σ H, i ≤ xs.length → Pv i σ H → SqL K H a xs)
    (hs : ∀ i x σ H, xs[i]? = some x → Pv i σ H → g x σ H fun σ2 H2 => tb ⟨Pv (i + 1), rt, nx, Pv (i + 1)⟩ σ2 H2) (hd : ∀ σ H, Pv xs.length σ H → nx σ H) : ForK (Itl K a) g tb ⟨nx, rt, bk, ct⟩ σ H := for_list Pv h0 hl hs hd
theorem fk_tup (Pv : Nat → L2.St → Hp → Prop) (h0 : Pv 0 σ H) (hl : ∀ i σ H, i ≤ xs.length → Pv i σ H → SqT K H a xs)
    (hs : ∀ i x σ H, xs[i]? = some x → Pv i σ H → g x σ H fun σ2 H2 => tb ⟨Pv (i + 1), rt, nx, Pv (i + 1)⟩ σ2 H2) (hd : ∀ σ H, Pv xs.length σ H → nx σ H) : ForK (Itt K a) g tb ⟨nx, rt, bk, ct⟩ σ H := for_tup Pv h0 hl hs hd
theorem fk_range {n : Nat} (Pv : Nat → L2.St → Hp → Prop) (h0 : Pv 0 σ H)
    (hs : ∀ (i : Nat) σ H, i < n → Pv i σ H → g (.int (i : Int)) σ H fun σ2 H2 => tb ⟨Pv (i + 1), rt, nx, Pv (i + 1)⟩ σ2 H2) (hd : ∀ σ H, Pv n σ H → nx σ H) : ForK (Itr 0 n) g tb ⟨nx, rt, bk, ct⟩ σ H :=
  for_range Pv h0 (fun i σ H hi p => by
    have e : (0 : Int) + (i : Int) = (i : Int) := Int.zero_add _
    rw [e]
    exact hs i σ H hi p) hd
theorem fk_range2 {lo : Int} {n : Nat} (Pv : Nat → L2.St → Hp → Prop) (h0 : Pv 0 σ H)
    (hs : ∀ (i : Nat) σ H, i < n → Pv i σ H → g (.int (lo + (i : Int))) σ H fun σ2 H2 => tb ⟨Pv (i + 1), rt, nx, Pv (i + 1)⟩ σ2 H2) (hd : ∀ σ H, Pv n σ H → nx σ H) : ForK (Itr lo n) g tb ⟨nx, rt, bk, ct⟩ σ H :=
  for_range Pv h0 hs hd
theorem fk_enum (Pv : Nat → L2.St → Hp → Prop) (h0 : Pv 0 σ H) (hl : ∀ i σ H, i ≤ xs.length → Pv i σ H → SqL K H a xs)
    (hs : ∀ (i : Nat) x T σ H, xs[i]? = some x → H T = none → Pv i σ H → g (.ref T) σ (upd H T (.tup [.int (i : Nat), x])) fun σ2 H2 => tb ⟨Pv (i + 1), rt, nx, Pv (i + 1)⟩ σ2 H2) (hd : ∀ σ H, Pv xs.length σ H → nx σ H) : ForK (Ite K a) g tb ⟨nx, rt, bk, ct⟩ σ H := by
  refine ⟨fun i m σ H => m = xs.length - i ∧ i ≤ xs.length ∧ Pv i σ H, ⟨xs.length, by simp, Nat.zero_le _, h0⟩, ?_⟩
  rintro i m σ H ⟨rfl, hi, p⟩
  have q := hl i σ H hi p
  by_cases hlt : i < xs.length
  · refine .inr ⟨⟨xs, xs[i], q, by simp [hlt]⟩, Pv (i + 1), fun σ' H' p' => ⟨xs.length - (i + 1), by omega, rfl, hlt, p'⟩, fun x H' y => ?_⟩
    obtain ⟨T, z, rfl, hT, rfl, y⟩ := y
    exact hs i z T σ _ (y xs q) hT p
  · have e : i = xs.length := by omega
    subst e
    exact .inl ⟨⟨xs, q, Nat.le_refl _⟩, hd σ H p⟩
/-! ### comprehensions -/
def LcK (J : It) (g : TG) (tt : TT) (te : TE) (vs : List Nat) (σ : L2.St) (H1 : Hp) (Q : VK) : Prop := ∀ D, H1 D = none → ∃ W : Nat → Nat → Hp → Prop, (∃ m, W 0 m (upd H1 D (.lst []))) ∧ ∀ i m H, W i m H →
  (J.stop i H ∧ Q (.ref D) H) ∨ (J.go i H ∧ ∃ Nx : Hp → Prop, (∀ H', Nx H' → ∃ m', m' < m ∧ W (i + 1) m' H') ∧ ∀ x H', J.yld i H x H' → g x (wipe σ vs) H' fun σ2 H2 => wipe σ2 vs = wipe σ vs ∧ tt σ2 H2 fun b H3 =>
    if b = true then te σ2 H3 fun y H4 => ∃ acc, H4 D = some (.lst acc) ∧ acc.length < sizeLine ∧ Nx (upd H4 D (.lst (acc ++ [y]))) else Nx H3)
variable {tt : TT} {te : TE} {vs : List Nat} {Q : VK}
theorem rd_lc {wi : TI} (h : wi σ H fun J H1 => LcK J g tt te vs σ H1 Q) : tLc wi g tt te vs σ H Q := h
/-- what stands in the new list behind n turns -/
theorem filter_take_succ {ρ : Type} {rows : List ρ} {i : Nat} {r : ρ} (f : ρ → Bool) (h : rows[i]? = some r) : (rows.take (i + 1)).filter f = (rows.take i).filter f ++ (if f r then [r] else []) := by
  rw [List.take_add_one, h, List.filter_append]
  congr 1
  simp [List.filter]
  split <;> simp_all
theorem small_len {ρ α : Type} {rows : List ρ} {n : Nat} (f : ρ → Bool) (v : ρ → α) (h : rows.length ≤ n) (i : Nat) : (((rows.take i).filter f).map v).length ≤ n := by
  rw [List.length_map]
  have h1 := List.length_filter_le f (rows.take i)
  have h2 : (rows.take i).length ≤ rows.length := by rw [List.length_take]; omega
  omega
theorem lcRows {ρ : Type} {rows : List ρ} {J : It} {n : Nat} (hn : n = rows.length) (hz : n ≤ 100000) (f : ρ → Bool) (v : ρ → V)
    (hst : ∀ H', Same H H' → J.stop n H') (hgo : ∀ i H', Same H H' → i < n → J.go i H')
    (turn : ∀ i r H1, rows[i]? = some r → Same H H1 → ∀ x H2, J.yld i H1 x H2 → ∀ (Done : Hp → Prop) (Kept : VK), (∀ H3, Same H1 H3 → f r = false → Done H3) → (∀ H3, Same H1 H3 → f r = true → Kept (v r) H3) →
      g x (wipe σ vs) H2 fun σ2 H2 => wipe σ2 vs = wipe σ vs ∧ tt σ2 H2 fun b H3 => if b = true then te σ2 H3 Kept else Done H3)
    (q : ∀ D H', H D = none → Same H H' → H' D = some (.lst ((rows.filter f).map v)) → Q (.ref D) H') : LcK J g tt te vs σ H Q := by
  intro D hD
  refine ⟨fun i m H' => m = n - i ∧ i ≤ n ∧ Same H H' ∧ H' D = some (.lst (((rows.take i).filter f).map v)), ⟨n, by simp, Nat.zero_le _, same_new hD, upd_same⟩, ?_⟩
  rintro i m H1 ⟨rfl, hi, s1, h1⟩
  by_cases hlt : i < n
  · refine .inr ⟨hgo i H1 s1 hlt, fun H' => i + 1 ≤ n ∧ Same H H' ∧ H' D = some (.lst (((rows.take (i + 1)).filter f).map v)), fun H' p' => ⟨n - (i + 1), by omega, rfl, p'⟩, fun x H2 y => ?_⟩
    have hr : i < rows.length := by omega
    refine turn i rows[i] H1 (List.getElem?_eq_getElem hr) s1 x H2 y _ _ (fun H3 s3 hf => ?_) (fun H3 s3 hf => ?_)
    · refine ⟨hlt, s1.trans s3, ?_⟩
      rw [filter_take_succ f (List.getElem?_eq_getElem hr), hf]
      simp only [Bool.false_eq_true, if_false, List.append_nil]
      exact s3 _ _ h1
    · refine ⟨_, s3 _ _ h1, ?_, hlt, same_mut (s1.trans s3) hD, ?_⟩
      · have := small_len (rows := rows) (n := n) f v (by omega) i
        rw [sizeLine_eq]
        omega
      · rw [filter_take_succ f (List.getElem?_eq_getElem hr), hf]
        simp only [if_true, List.map_append, List.map_cons, List.map_nil]
        exact upd_same
  · have e : i = n := by omega
    subst e
    refine .inl ⟨hst H1 s1, q D H1 hD s1 ?_⟩
    rw [h1, hn, List.take_length]
/-- over a list that stands -/
theorem lcL {ρ : Type} {rows : List ρ} (hn : xs.length = rows.length) (hz : xs.length ≤ 100000) (hx : SqL K H a xs) (f : ρ → Bool) (v : ρ → V)
    (turn : ∀ (i : Nat) x r H1, xs[i]? = some x → rows[i]? = some r → Same H H1 → ∀ (Done : Hp → Prop) (Kept : VK), (∀ H3, Same H1 H3 → f r = false → Done H3) → (∀ H3, Same H1 H3 → f r = true → Kept (v r) H3) →
      g x (wipe σ vs) H1 fun σ2 H2 => wipe σ2 vs = wipe σ vs ∧ tt σ2 H2 fun b H3 => if b = true then te σ2 H3 Kept else Done H3)
    (q : ∀ D H', H D = none → Same H H' → H' D = some (.lst ((rows.filter f).map v)) → Q (.ref D) H') : LcK (Itl K a) g tt te vs σ H Q := by
  refine lcRows hn hz f v (fun H' s => ⟨xs, s.seq hx, Nat.le_refl _⟩) (fun i H' s hi => ⟨xs, xs[i], s.seq hx, by simp [hi]⟩) (fun i r H1 hr s1 x H2 y Done Kept hd hk => ?_) q
  obtain ⟨rfl, y⟩ := y
  exact turn i x r _ (y xs (s1.seq hx)) hr s1 Done Kept hd hk
theorem lcT {ρ : Type} {rows : List ρ} (hn : xs.length = rows.length) (hz : xs.length ≤ 100000) (hx : SqT K H a xs) (f : ρ → Bool) (v : ρ → V)
    (turn : ∀ (i : Nat) x r H1, xs[i]? = some x → rows[i]? = some r → Same H H1 → ∀ (Done : Hp → Prop) (Kept : VK), (∀ H3, Same H1 H3 → f r = false → Done H3) → (∀ H3, Same H1 H3 → f r = true → Kept (v r) H3) →
      g x (wipe σ vs) H1 fun σ2 H2 => wipe σ2 vs = wipe σ vs ∧ tt σ2 H2 fun b H3 => if b = true then te σ2 H3 Kept else Done H3)
    (q : ∀ D H', H D = none → Same H H' → H' D = some (.lst ((rows.filter f).map v)) → Q (.ref D) H') : LcK (Itt K a) g tt te vs σ H Q := by
  refine lcRows hn hz f v (fun H' s => ⟨xs, sqT_same s hx, Nat.le_refl _⟩) (fun i H' s hi => ⟨xs, xs[i], sqT_same s hx, by simp [hi]⟩) (fun i r H1 hr s1 x H2 y Done Kept hd hk => ?_) q
  obtain ⟨rfl, y⟩ := y
  exact turn i x r _ (y xs (sqT_same s1 hx)) hr s1 Done Kept hd hk
theorem lcR {n : Nat} (hz : n ≤ 100000) (f : Nat → Bool) (v : Nat → V)
    (turn : ∀ (i : Nat) H1, i < n → Same H H1 → ∀ (Done : Hp → Prop) (Kept : VK), (∀ H3, Same H1 H3 → f i = false → Done H3) → (∀ H3, Same H1 H3 → f i = true → Kept (v i) H3) →
      g (.int (i : Int)) (wipe σ vs) H1 fun σ2 H2 => wipe σ2 vs = wipe σ vs ∧ tt σ2 H2 fun b H3 => if b = true then te σ2 H3 Kept else Done H3)
    (q : ∀ D H', H D = none → Same H H' → H' D = some (.lst (((List.range n).filter f).map v)) → Q (.ref D) H') : LcK (Itr 0 n) g tt te vs σ H Q := by
  refine lcRows (rows := List.range n) (by simp) hz f v (fun H' s => Nat.le_refl _) (fun i H' s hi => hi) (fun i r H1 hr s1 x H2 y Done Kept hd hk => ?_) q
  obtain ⟨rfl, rfl⟩ := y
  have hi : i < n := by
    have := (List.getElem?_eq_some_iff.mp hr).1
    simpa using this
  have er : r = i := by
    rw [List.getElem?_range hi] at hr
    exact (Option.some.inj hr).symm
  subst er
  have e : (0 : Int) + (r : Int) = (r : Int) := Int.zero_add _
  rw [e]
  exact turn r _ hi s1 Done Kept hd hk
theorem rd_yes {P : Bool → Hp → Prop} (h : P true H) : tYes σ H P := h
end
section
variable {K : PySem.W.Frag} {H : Hp} {Q : VK}
theorem kit_int_int : PySem.W.kitOne K (.type "int") (.type "int") = some true := kit_ty (by decide +kernel)
theorem kit_int_bool : PySem.W.kitOne K (.type "int") (.type "bool") = some false := kit_ty (by decide +kernel)
theorem kit_int_str : PySem.W.kitOne K (.type "int") (.type "str") = some false := kit_ty (by decide +kernel)
theorem kit_int_list : PySem.W.kitOne K (.type "int") (.type "list") = some false := kit_ty (by decide +kernel)
theorem kit_int_tuple : PySem.W.kitOne K (.type "int") (.type "tuple") = some false := kit_ty (by decide +kernel)
theorem kit_bool_int : PySem.W.kitOne K (.type "bool") (.type "int") = some true := kit_ty (by decide +kernel)
theorem kit_bool_bool : PySem.W.kitOne K (.type "bool") (.type "bool") = some true := kit_ty (by decide +kernel)
theorem kit_bool_str : PySem.W.kitOne K (.type "bool") (.type "str") = some false := kit_ty (by decide +kernel)
theorem kit_bool_list : PySem.W.kitOne K (.type "bool") (.type "list") = some false := kit_ty (by decide +kernel)
theorem kit_bool_tuple : PySem.W.kitOne K (.type "bool") (.type "tuple") = some false := kit_ty (by decide +kernel)
theorem kit_str_int : PySem.W.kitOne K (.type "str") (.type "int") = some false := kit_ty (by decide +kernel)
theorem kit_str_bool : PySem.W.kitOne K (.type "str") (.type "bool") = some false := kit_ty (by decide +kernel)
theorem kit_str_str : PySem.W.kitOne K (.type "str") (.type "str") = some true := kit_ty (by decide +kernel)
theorem kit_str_list : PySem.W.kitOne K (.type "str") (.type "list") = some false := kit_ty (by decide +kernel)
theorem kit_str_tuple : PySem.W.kitOne K (.type "str") (.type "tuple") = some false := kit_ty (by decide +kernel)
theorem kit_list_int : PySem.W.kitOne K (.type "list") (.type "int") = some false := kit_ty (by decide +kernel)
theorem kit_list_bool : PySem.W.kitOne K (.type "list") (.type "bool") = some false := kit_ty (by decide +kernel)
theorem kit_list_str : PySem.W.kitOne K (.type "list") (.type "str") = some false := kit_ty (by decide +kernel)
theorem kit_list_list : PySem.W.kitOne K (.type "list") (.type "list") = some true := kit_ty (by decide +kernel)
theorem kit_list_tuple : PySem.W.kitOne K (.type "list") (.type "tuple") = some false := kit_ty (by decide +kernel)
theorem kit_tuple_int : PySem.W.kitOne K (.type "tuple") (.type "int") = some false := kit_ty (by decide +kernel)
theorem kit_tuple_bool : PySem.W.kitOne K (.type "tuple") (.type "bool") = some false := kit_ty (by decide +kernel)
theorem kit_tuple_str : PySem.W.kitOne K (.type "tuple") (.type "str") = some false := kit_ty (by decide +kernel)
theorem kit_tuple_list : PySem.W.kitOne K (.type "tuple") (.type "list") = some false := kit_ty (by decide +kernel)
theorem kit_tuple_tuple : PySem.W.kitOne K (.type "tuple") (.type "tuple") = some true := kit_ty (by decide +kernel)
theorem kit_NoneType_int : PySem.W.kitOne K (.type "NoneType") (.type "int") = some false := kit_ty (by decide +kernel)
theorem kit_NoneType_bool : PySem.W.kitOne K (.type "NoneType") (.type "bool") = some false := kit_ty (by decide +kernel)
theorem kit_NoneType_str : PySem.W.kitOne K (.type "NoneType") (.type "str") = some false := kit_ty (by decide +kernel)
theorem kit_NoneType_list : PySem.W.kitOne K (.type "NoneType") (.type "list") = some false := kit_ty (by decide +kernel)
theorem kit_NoneType_tuple : PySem.W.kitOne K (.type "NoneType") (.type "tuple") = some false := kit_ty (by decide +kernel)
theorem rd_isi_int_int {i : Int} (q : Q (.bl true) H) : rIsi K [(.int i), .ty "int"] H Q := rd_isi (.ty _) (.base (.int _)) kit_int_int q
theorem rd_isi_int_bool {i : Int} (q : Q (.bl false) H) : rIsi K [(.int i), .ty "bool"] H Q := rd_isi (.ty _) (.base (.int _)) kit_int_bool q
theorem rd_isi_int_str {i : Int} (q : Q (.bl false) H) : rIsi K [(.int i), .ty "str"] H Q := rd_isi (.ty _) (.base (.int _)) kit_int_str q
theorem rd_isi_int_list {i : Int} (q : Q (.bl false) H) : rIsi K [(.int i), .ty "list"] H Q := rd_isi (.ty _) (.base (.int _)) kit_int_list q
theorem rd_isi_int_tuple {i : Int} (q : Q (.bl false) H) : rIsi K [(.int i), .ty "tuple"] H Q := rd_isi (.ty _) (.base (.int _)) kit_int_tuple q
theorem rd_isi_bool_int {i : Bool} (q : Q (.bl true) H) : rIsi K [(.bl i), .ty "int"] H Q := rd_isi (.ty _) (.base (.bl _)) kit_bool_int q
theorem rd_isi_bool_bool {i : Bool} (q : Q (.bl true) H) : rIsi K [(.bl i), .ty "bool"] H Q := rd_isi (.ty _) (.base (.bl _)) kit_bool_bool q
theorem rd_isi_bool_str {i : Bool} (q : Q (.bl false) H) : rIsi K [(.bl i), .ty "str"] H Q := rd_isi (.ty _) (.base (.bl _)) kit_bool_str q
theorem rd_isi_bool_list {i : Bool} (q : Q (.bl false) H) : rIsi K [(.bl i), .ty "list"] H Q := rd_isi (.ty _) (.base (.bl _)) kit_bool_list q
theorem rd_isi_bool_tuple {i : Bool} (q : Q (.bl false) H) : rIsi K [(.bl i), .ty "tuple"] H Q := rd_isi (.ty _) (.base (.bl _)) kit_bool_tuple q
theorem rd_isi_str_int {i : Str} (q : Q (.bl false) H) : rIsi K [(.str i), .ty "int"] H Q := rd_isi (.ty _) (.base (.str _)) kit_str_int q
theorem rd_isi_str_bool {i : Str} (q : Q (.bl false) H) : rIsi K [(.str i), .ty "bool"] H Q := rd_isi (.ty _) (.base (.str _)) kit_str_bool q
theorem rd_isi_str_str {i : Str} (q : Q (.bl true) H) : rIsi K [(.str i), .ty "str"] H Q := rd_isi (.ty _) (.base (.str _)) kit_str_str q
theorem rd_isi_str_list {i : Str} (q : Q (.bl false) H) : rIsi K [(.str i), .ty "list"] H Q := rd_isi (.ty _) (.base (.str _)) kit_str_list q
theorem rd_isi_str_tuple {i : Str} (q : Q (.bl false) H) : rIsi K [(.str i), .ty "tuple"] H Q := rd_isi (.ty _) (.base (.str _)) kit_str_tuple q
theorem rd_isi_list_int {p : Addr} {xs : List V} (e : H p = some (.lst xs)) (q : Q (.bl false) H) : rIsi K [(.ref p), .ty "int"] H Q := rd_isi (.ty _) (.base (.lst e)) kit_list_int q
theorem rd_isi_list_bool {p : Addr} {xs : List V} (e : H p = some (.lst xs)) (q : Q (.bl false) H) : rIsi K [(.ref p), .ty "bool"] H Q := rd_isi (.ty _) (.base (.lst e)) kit_list_bool q
theorem rd_isi_list_str {p : Addr} {xs : List V} (e : H p = some (.lst xs)) (q : Q (.bl false) H) : rIsi K [(.ref p), .ty "str"] H Q := rd_isi (.ty _) (.base (.lst e)) kit_list_str q
theorem rd_isi_list_list {p : Addr} {xs : List V} (e : H p = some (.lst xs)) (q : Q (.bl true) H) : rIsi K [(.ref p), .ty "list"] H Q := rd_isi (.ty _) (.base (.lst e)) kit_list_list q
theorem rd_isi_list_tuple {p : Addr} {xs : List V} (e : H p = some (.lst xs)) (q : Q (.bl false) H) : rIsi K [(.ref p), .ty "tuple"] H Q := rd_isi (.ty _) (.base (.lst e)) kit_list_tuple q
theorem rd_isi_tuple_int {p : Addr} {xs : List V} (e : H p = some (.tup xs)) (q : Q (.bl false) H) : rIsi K [(.ref p), .ty "int"] H Q := rd_isi (.ty _) (.base (.tup e)) kit_tuple_int q
theorem rd_isi_tuple_bool {p : Addr} {xs : List V} (e : H p = some (.tup xs)) (q : Q (.bl false) H) : rIsi K [(.ref p), .ty "bool"] H Q := rd_isi (.ty _) (.base (.tup e)) kit_tuple_bool q
theorem rd_isi_tuple_str {p : Addr} {xs : List V} (e : H p = some (.tup xs)) (q : Q (.bl false) H) : rIsi K [(.ref p), .ty "str"] H Q := rd_isi (.ty _) (.base (.tup e)) kit_tuple_str q
theorem rd_isi_tuple_list {p : Addr} {xs : List V} (e : H p = some (.tup xs)) (q : Q (.bl false) H) : rIsi K [(.ref p), .ty "list"] H Q := rd_isi (.ty _) (.base (.tup e)) kit_tuple_list q
theorem rd_isi_tuple_tuple {p : Addr} {xs : List V} (e : H p = some (.tup xs)) (q : Q (.bl true) H) : rIsi K [(.ref p), .ty "tuple"] H Q := rd_isi (.ty _) (.base (.tup e)) kit_tuple_tuple q
theorem rd_isi_NoneType_int  (q : Q (.bl false) H) : rIsi K [.non, .ty "int"] H Q := rd_isi (.ty _) (.base .non) kit_NoneType_int q
theorem rd_isi_NoneType_bool  (q : Q (.bl false) H) : rIsi K [.non, .ty "bool"] H Q := rd_isi (.ty _) (.base .non) kit_NoneType_bool q
theorem rd_isi_NoneType_str  (q : Q (.bl false) H) : rIsi K [.non, .ty "str"] H Q := rd_isi (.ty _) (.base .non) kit_NoneType_str q
theorem rd_isi_NoneType_list  (q : Q (.bl false) H) : rIsi K [.non, .ty "list"] H Q := rd_isi (.ty _) (.base .non) kit_NoneType_list q
theorem rd_isi_NoneType_tuple  (q : Q (.bl false) H) : rIsi K [.non, .ty "tuple"] H Q := rd_isi (.ty _) (.base .non) kit_NoneType_tuple q
theorem rd_isi_own {C a dx : Addr} {fs : List (Str × V)} (T : TyC K C) (e : H a = some (.ins C dx fs)) (q : Q (.bl true) H) : rIsi K [.ref a, .ref C] H Q := rd_isi (.own _) (.base (T.at e)) kit_self q
end
/-! ### texts by their codes -/
def tx (l : List Nat) : Str := ⟨l.toArray⟩
theorem tx_list (l : List Nat) : (tx l).cps.toList = l := rfl
theorem tx_len (l : List Nat) : (tx l).length = l.length := by simp [tx, Str.length]
theorem tx_app (l m : List Nat) : tx l ++ tx m = tx (l ++ m) := PyProof.Rows.str_of_list (by rw [PyProof.Rows.cps_toList_append]; rfl)
theorem tx_of (z : Str) : z = tx z.cps.toList := PyProof.Rows.str_of_list rfl
theorem tx_inj {l m : List Nat} : tx l = tx m ↔ l = m := ⟨fun h => by have := congrArg (fun z => z.cps.toList) h; exact this, fun h => by rw [h]⟩
def smalls : List Nat := [97, 98, 99, 100, 101, 102, 103, 104, 105, 106, 107, 108, 109, 110, 111, 112, 113, 114, 115, 116, 117, 118, 119, 120, 121, 122]
def capitals : List Nat := [65, 66, 67, 68, 69, 70, 71, 72, 73, 74, 75, 76, 77, 78, 79, 80, 81, 82, 83, 84, 85, 86, 87, 88, 89, 90]
theorem smalls_eq : (Str.ofString "abcdefghijklmnopqrstuvwxyz") = tx smalls := by decide +kernel
theorem capitals_eq : (Str.ofString "ABCDEFGHIJKLMNOPQRSTUVWXYZ") = tx capitals := by decide +kernel
theorem atI_mem {α : Type} {xs : List α} {i : Int} (h0 : 0 ≤ i) (h1 : i < (xs.length : Int)) : ∃ z, atI xs i = some z ∧ z ∈ xs := by
  have e : i.toNat < xs.length := by omega
  refine ⟨xs[i.toNat], ?_, List.getElem_mem e⟩
  unfold atI ixN
  rw [if_pos h0, if_pos h1]
  simp [e]
theorem empty_tx : Str.empty = tx [] := rfl
theorem sg_tx (c : Nat) : (⟨#[c]⟩ : Str) = tx [c] := rfl
section
variable {σ : L2.St} {H : Hp} {te : TE} {ts : List TE} {QS : Str → Hp → Prop} {Q : VK}
def JsK (ts : List TE) (acc : Str) (σ : L2.St) (x : V) (H1 : Hp) (Q : Str → Hp → Prop) : Prop := ∃ y : Str, x = .str y ∧ (acc ++ y).length ≤ sizeLine ∧ tJs ts (acc ++ y) σ H1 Q
theorem rd_jsC {acc : Str} (h : te σ H fun x H1 => JsK ts acc σ x H1 QS) : tJs (te :: ts) acc σ H QS := h
theorem rd_jsN {acc : Str} (h : QS acc H) : tJs [] acc σ H QS := h
theorem rd_JsK {l m : List Nat} (h : l.length + m.length ≤ 100000) (k : tJs ts (tx (l ++ m)) σ H QS) : JsK ts (tx l) σ (.str (tx m)) H QS := by
  have e : (tx (l ++ m)).length = l.length + m.length := by rw [tx_len, List.length_append]
  exact ⟨tx m, rfl, by rw [tx_app, e]; exact sz_of h, by rw [tx_app]; exact k⟩
def FmtK (x : V) (H1 : Hp) (Q : VK) : Prop := (∃ y : Str, x = .str y ∧ y.length ≤ sizeLine ∧ Q (.str y) H1) ∨ ∃ i : Int, x = .int i ∧ i.natAbs.log2 < 1920 ∧ Q (.str (toString i)) H1
theorem rd_fmt (h : te σ H fun x H1 => FmtK x H1 Q) : tFmt te σ H Q := h
theorem rd_fmtS {y : Str} (h : y.length ≤ sizeLine) (k : Q (.str y) H) : FmtK (.str y) H Q := .inl ⟨y, rfl, h, k⟩
theorem rd_fmtT {l : List Nat} (h : l.length ≤ 100000) (k : Q (.str (tx l)) H) : FmtK (.str (tx l)) H Q := .inl ⟨_, rfl, by rw [tx_len]; exact sz_of h, k⟩
theorem rd_addT {l m : List Nat} (hz : l.length + m.length ≤ 100000) (q : Q (.str (tx (l ++ m))) H) : rAddStr (.str (tx l)) (.str (tx m)) H Q := by
  refine rd_addS (by rw [tx_len, tx_len]; exact sz_of hz) ?_
  rw [tx_app]
  exact q
theorem rd_lenTx {l : List Nat} (hz : l.length ≤ 100000) (q : Q (.int (l.length : Nat)) H) : rLenStr [.str (tx l)] H Q := by
  refine rd_lenS (by rw [tx_len]; exact sz_of hz) ?_
  rw [tx_len]
  exact q
theorem eq_tx {l m : List Nat} : decide (V.str (tx l) = V.str (tx m)) = decide (l = m) := by
  have e : (V.str (tx l) = V.str (tx m)) ↔ l = m := ⟨fun h => tx_inj.mp (by injection h), fun h => by rw [h]⟩
  simp only [e]
theorem rd_eqTx {l m : List Nat} (q : Q (.bl (decide (l = m))) H) : rEq (.str (tx l)) (.str (tx m)) H Q := rd_eq rfl (by rw [eq_tx]; exact q)
theorem rd_neTx {l m : List Nat} (q : Q (.bl (!decide (l = m))) H) : rNe (.str (tx l)) (.str (tx m)) H Q := rd_ne rfl (by rw [eq_tx]; exact q)
theorem rd_inTx {c : Nat} {l : List Nat} (q : Q (.bl (decide (c ∈ l))) H) : rInSign (.str (tx [c])) (.str (tx l)) H Q := rd_inSign q
theorem rd_notInTx {c : Nat} {l : List Nat} (q : Q (.bl (!decide (c ∈ l))) H) : rNotInSign (.str (tx [c])) (.str (tx l)) H Q := rd_notInSign q
theorem atI_at {α : Type} {xs : List α} {i : Nat} {c : α} (h : xs[i]? = some c) : atI xs (i : Int) = some c := by
  have e := (List.getElem?_eq_some_iff.mp h).1
  unfold atI ixN
  rw [if_pos (by omega), if_pos (by omega)]
  simpa using h
theorem rd_ixTx {l : List Nat} {i : Nat} {c : Nat} (hz : l.length ≤ 100000) (h : l[i]? = some c) (q : Q (.str (tx [c])) H) : rIxS (.str (tx l)) (.int (i : Nat)) H Q := rd_ixS (by rw [tx_len]; exact sz_of hz) (atI_at h) q
theorem sIx_nat {n d i : Nat} (h : i ≤ n) : HT.sIx n d (some (i : Int)) = i := by
  rw [HT.sIx_nat]
  omega
theorem cutS_tx {l : List Nat} {i j : Nat} (hi : i ≤ l.length) (hj : j ≤ l.length) : cutS (tx l) (some (i : Int)) (some (j : Int)) = tx ((l.drop i).take (j - i)) := by
  unfold cutS
  rw [tx_len, sIx_nat hi, sIx_nat hj] <;> rfl
theorem rd_cutTx {l : List Nat} {i j : Nat} (hz : l.length ≤ 100000) (hi : i ≤ l.length) (hj : j ≤ l.length) (q : Q (.str (tx ((l.drop i).take (j - i)))) H) : rSlS (.str (tx l)) (some (i : Int)) (some (j : Int)) H Q := by
  refine rd_slS (by rw [tx_len]; exact sz_of hz) ?_
  rw [cutS_tx hi hj]
  exact q
end
section
variable {X : Cx} {K : PySem.W.Frag}
theorem ix_listK (h : X.K = K := by rfl) : IxR X (rIxL K) := h ▸ ix_list
theorem ix_tupK (h : X.K = K := by rfl) : IxR X (rIxT K) := h ▸ ix_tup
theorem op_inSeqK (h : X.K = K := by rfl) : OpR X (compareOp .In) (rIn K false) := h ▸ op_in_seq
theorem op_notInSeqK (h : X.K = K := by rfl) : OpR X (compareOp .NotIn) (rIn K true) := h ▸ op_notIn_seq
theorem op_eqDK (hu : X.A.units + 64 < cLine) (h : X.K = K := by rfl) : OpR X (compareOp .Eq) (rEqD K) := h ▸ op_eqD hu
theorem op_neDK (hu : X.A.units + 64 < cLine) (h : X.K = K := by rfl) : OpR X (compareOp .NotEq) (rNeD K) := h ▸ op_neD hu
theorem call_lenSeqK (h : X.K = K := by rfl) : CallR X (.builtin "len") (rLenSeq K) := h ▸ call_lenSeq
theorem call_listOfK (h : X.K = K := by rfl) : CallR X (.type "list") (rListOf K) := h ▸ call_listOf
theorem call_isi_K (h : X.K = K := by rfl) : CallR X (.builtin "isinstance") (rIsi K) := h ▸ call_isi
theorem pe_fldK {e : Expr} {f : Str} {pos : Pos} {ta : TE} (he : PE X e ta) (hb : attributeBase e f X.env (eval e X.env) = eval e X.env) (h : X.K = K := by rfl) : PE X (.Attribute e f pos) (tFld K ta f) := h ▸ pe_fld he hb
theorem pe_cvalK {e : Expr} {f : Str} {pos : Pos} {ta : TE} (he : PE X e ta) (hb : attributeBase e f X.env (eval e X.env) = eval e X.env := by rfl) (h : X.K = K := by rfl) : PE X (.Attribute e f pos) (ClX.tCVal K ta f) := h ▸ ClX.pe_cval he hb
end
/-! ### lists of texts -/
def wd (l : List Nat) : V := .str (tx l)
def wdD (l : List Nat) : PyData := .str (tx l)
def okT (l : List Nat) : Prop := ∀ c ∈ l, c < 128
theorem okT_str {l : List Nat} (h : okT l) : PyData.strOk (tx l) = true := by
  unfold PyData.strOk tx
  rw [Array.all_eq_true']
  intro x hx
  have := h x (by simpa using hx)
  simp
  omega
theorem wd_flat (ws : List (List Nat)) : (ws.map wd).all flatV = true := by
  rw [List.all_map, List.all_eq_true]
  intro x _
  rfl
theorem inV_wd (l : List Nat) (ws : List (List Nat)) : inV (.str (tx l)) (ws.map wd) = decide (l ∈ ws) := by
  unfold inV
  rw [List.any_map]
  induction ws with
  | nil => simp
  | cons m ws ih =>
    rw [List.any_cons, ih]
    show ((tx m == tx l) || decide (l ∈ ws)) = _
    by_cases h : m = l
    · subst h
      simp
    · have h1 : ¬ tx m = tx l := fun z => h (tx_inj.mp z)
      have h2 : ¬ l = m := fun z => h z.symm
      simp [h1, h2]
section
variable {K : PySem.W.Frag} {H : Hp} {Q : VK} {p : Addr} {l : List Nat} {ws vs : List (List Nat)}
theorem rd_inWL (h : SqL K H p (ws.map wd)) (q : Q (.bl (decide (l ∈ ws))) H) : rIn K false (.str (tx l)) (.ref p) H Q := rd_inSeqL h rfl (wd_flat ws) (by rw [inV_wd]; exact q)
theorem rd_inWT (h : SqT K H p (ws.map wd)) (q : Q (.bl (decide (l ∈ ws))) H) : rIn K false (.str (tx l)) (.ref p) H Q := rd_inSeqT h rfl (wd_flat ws) (by rw [inV_wd]; exact q)
theorem rd_notInWL (h : SqL K H p (ws.map wd)) (q : Q (.bl (!decide (l ∈ ws))) H) : rIn K true (.str (tx l)) (.ref p) H Q := rd_inSeqL h rfl (wd_flat ws) (by rw [inV_wd]; exact q)
theorem rd_notInWT (h : SqT K H p (ws.map wd)) (q : Q (.bl (!decide (l ∈ ws))) H) : rIn K true (.str (tx l)) (.ref p) H Q := rd_inSeqT h rfl (wd_flat ws) (by rw [inV_wd]; exact q)
theorem joinL_len (sep : List Nat) : ∀ ws : List (List Nat), (TL.joinL sep ws).length ≤ (ws.map (·.length)).sum + ws.length * sep.length
  | [] => by simp [TL.joinL]
  | [x] => by simp [TL.joinL]
  | x :: y :: ws => by
    have h := joinL_len sep (y :: ws)
    have e : TL.joinL sep (x :: y :: ws) = x ++ (sep ++ TL.joinL sep (y :: ws)) := by simp [TL.joinL]
    rw [e, List.length_append, List.length_append, List.map_cons, List.sum_cons, List.length_cons, Nat.succ_mul]
    omega
theorem wd_strs (ws : List (List Nat)) : ws.map wd = (ws.map tx).map V.str := by rw [List.map_map]; rfl
/-- what sep.join(..) asks -/
def JoinK (K : PySem.W.Frag) (x : V) (xs : List V) (H : Hp) (Q : VK) : Prop := ∃ a p, ∃ ys : List Str, x = .str a ∧ xs = [.ref p] ∧ (SqL K H p (ys.map V.str) ∨ SqT K H p (ys.map V.str)) ∧ (ys.map (·.length)).sum + ys.length * a.length ≤ 16777216 ∧ Q (.str (Txt.join a ys)) H
theorem rd_joinW {sep : List Nat} (h : SqL K H p (ws.map wd) ∨ SqT K H p (ws.map wd)) (hb : (ws.map (·.length)).sum + ws.length * sep.length ≤ 100000) (q : Q (.str (tx (TL.joinL sep ws))) H) : JoinK K (.str (tx sep)) [.ref p] H Q := by
  refine ⟨tx sep, p, ws.map tx, rfl, rfl, by rw [← wd_strs]; exact h, ?_, ?_⟩
  · have e : (ws.map tx).map (·.length) = ws.map (·.length) := SX.lens ws
    rw [e, List.length_map, tx_len]
    omega
  · have e : Txt.join (tx sep) (ws.map tx) = tx (TL.joinL sep ws) := SX.join_S sep ws
    rw [e]
    exact q
theorem wd_dp : ∀ ws : List (List Nat), DpAll K H (ws.map wd) (ws.map wdD)
  | [] => .nil
  | _ :: ws => .cons (.str _) (wd_dp ws)
theorem wdD_lay : ∀ ws : List (List Nat), (∀ w ∈ ws, okT w) → PyData.canLayAll0 (ws.map wdD) = true
  | [], _ => by simp [PyData.canLayAll0]
  | z :: zs, h => by simp [PyData.canLayAll0, wdD, PyData.canLay0, okT_str (h z (by simp)), wdD_lay zs fun p hp => h p (by simp [hp])]
theorem wdD_depth : ∀ ws : List (List Nat), PyData.depthAll (ws.map wdD) = 0
  | [] => by simp [PyData.depthAll]
  | z :: zs => by simp [PyData.depthAll, wdD, PyData.depth, wdD_depth zs]
theorem wdL_shaped (h : ∀ w ∈ ws, okT w) : SeqAt.shaped (.list (ws.map wdD)) = true := by
  show (PyData.canLay0 (.list (ws.map wdD)) && decide (PyData.depth (.list (ws.map wdD)) ≤ 64)) = true
  rw [Bool.and_eq_true]
  exact ⟨by simp only [PyData.canLay0]; exact wdD_lay ws h, decide_eq_true (by simp only [PyData.depth, wdD_depth]; omega)⟩
theorem wdT_shaped (h : ∀ w ∈ ws, okT w) : SeqAt.shaped (.tuple (ws.map wdD)) = true := by
  show (PyData.canLay0 (.tuple (ws.map wdD)) && decide (PyData.depth (.tuple (ws.map wdD)) ≤ 64)) = true
  rw [Bool.and_eq_true]
  exact ⟨by simp only [PyData.canLay0]; exact wdD_lay ws h, decide_eq_true (by simp only [PyData.depth, wdD_depth]; omega)⟩
theorem wdD_eqv : ∀ ws vs : List (List Nat), PyData.eqvAll (ws.map wdD) (vs.map wdD) = decide (ws = vs)
  | [], [] => by simp [PyData.eqvAll]
  | [], _ :: _ => by simp [PyData.eqvAll]
  | _ :: _, [] => by simp [PyData.eqvAll]
  | w :: ws, v :: vs => by
    have e : PyData.eqvAll ((w :: ws).map wdD) ((v :: vs).map wdD) = ((tx w == tx v) && PyData.eqvAll (ws.map wdD) (vs.map wdD)) := by simp only [List.map_cons, wdD, PyData.eqvAll, PyData.eqv]
    rw [e, wdD_eqv ws vs]
    by_cases h : w = v
    · subst h
      simp
    · have h1 : ¬ tx w = tx v := fun z => h (tx_inj.mp z)
      simp [h, h1]
theorem rd_eqWL {r : Addr} (h : SqL K H p (ws.map wd)) (h2 : SqL K H r (vs.map wd)) (o1 : ∀ w ∈ ws, okT w) (o2 : ∀ w ∈ vs, okT w) (q : Q (.bl (decide (ws = vs))) H) : rEqD K (.ref p) (.ref r) H Q :=
  rd_eqD (.lst h (wd_dp ws)) (.lst h2 (wd_dp vs)) (wdL_shaped o1) (wdL_shaped o2) (by rw [show PyData.eqv (.list (ws.map wdD)) (.list (vs.map wdD)) = PyData.eqvAll (ws.map wdD) (vs.map wdD) by simp only [PyData.eqv], wdD_eqv]; exact q)
theorem rd_neWL {r : Addr} (h : SqL K H p (ws.map wd)) (h2 : SqL K H r (vs.map wd)) (o1 : ∀ w ∈ ws, okT w) (o2 : ∀ w ∈ vs, okT w) (q : Q (.bl (!decide (ws = vs))) H) : rNeD K (.ref p) (.ref r) H Q :=
  rd_neD (.lst h (wd_dp ws)) (.lst h2 (wd_dp vs)) (wdL_shaped o1) (wdL_shaped o2) (by rw [show PyData.eqv (.list (ws.map wdD)) (.list (vs.map wdD)) = PyData.eqvAll (ws.map wdD) (vs.map wdD) by simp only [PyData.eqv], wdD_eqv]; exact q)
theorem rd_eqWT {r : Addr} (h : SqT K H p (ws.map wd)) (h2 : SqT K H r (vs.map wd)) (o1 : ∀ w ∈ ws, okT w) (o2 : ∀ w ∈ vs, okT w) (q : Q (.bl (decide (ws = vs))) H) : rEqD K (.ref p) (.ref r) H Q :=
  rd_eqD (.tup h (wd_dp ws)) (.tup h2 (wd_dp vs)) (wdT_shaped o1) (wdT_shaped o2) (by rw [show PyData.eqv (.tuple (ws.map wdD)) (.tuple (vs.map wdD)) = PyData.eqvAll (ws.map wdD) (vs.map wdD) by simp only [PyData.eqv], wdD_eqv]; exact q)
end
section
variable {X : Cx} {o e : Expr} {to te : TE} {K : PySem.W.Frag}
theorem pe_joinR {apos pos : Pos} (ho : PE X o to) (he : PE X e te) (h : X.K = K := by rfl) (hs : starEach [e] X.env = [(false, eval e X.env)] := by rfl) (hbase : attributeBase o "join" X.env (eval o X.env) = eval o X.env := by rfl) (hline : (apos.endLine == pos.line) = true := by rfl) :
    PE X (.Call (.Attribute o "join" apos) [e] [] pos) (tM1 (JoinK K) to te) := h ▸ pe_join ho he hs hbase hline
def SplitK (x : V) (xs : List V) (H : Hp) (Q : VK) : Prop := ∃ a b, x = .str a ∧ xs = [.str b] ∧ (b.length == 0) = false ∧ a.length + 2 ≤ sizeLine ∧ rNewStrs (Txt.split a b) H Q
theorem pe_splitR {apos pos : Pos} (ho : PE X o to) (he : PE X e te) (hs : starEach [e] X.env = [(false, eval e X.env)] := by rfl) (hbase : attributeBase o "split" X.env (eval o X.env) = eval o X.env := by rfl) (hline : (apos.endLine == pos.line) = true := by rfl) :
    PE X (.Call (.Attribute o "split" apos) [e] [] pos) (tM1 SplitK to te) := pe_split ho he hs hbase hline
end
theorem units65 {k : Nat} {A : Around} (r : Room k A) : A.units + 65 < cLine := by have := r.un; omega
end Hk

namespace K87
open PySem L2 Hk
def top (i : Nat) : Stmt := PySem.Challenge.pw_heirsback_k87_families_joined.main.body.getD i (.Pass ⟨0, 0, 0, 0⟩)
abbrev s_Family_init : Stmt := inClass (top 33) 1
theorem sc_Family_init : FnScope ["self", "words", "word", "licence"] ["self", "words"] (defScope s_Family_init) := ⟨rfl, rfl, rfl, by decide +kernel, rfl, by decide +kernel, by decide +kernel⟩
abbrev s_Family_is_within : Stmt := inClass (top 33) 4
theorem sc_Family_is_within : FnScope ["self", "other", "word"] ["self", "other"] (defScope s_Family_is_within) := ⟨rfl, rfl, rfl, by decide +kernel, rfl, by decide +kernel, by decide +kernel⟩
abbrev s_Family_and : Stmt := inClass (top 33) 5
theorem sc_Family_and : FnScope ["self", "other", "word"] ["self", "other"] (defScope s_Family_and) := ⟨rfl, rfl, rfl, by decide +kernel, rfl, by decide +kernel, by decide +kernel⟩
abbrev s_Family_or : Stmt := inClass (top 33) 6
theorem sc_Family_or : FnScope ["self", "other"] ["self", "other"] (defScope s_Family_or) := ⟨rfl, rfl, rfl, by decide +kernel, rfl, by decide +kernel, by decide +kernel⟩
abbrev s_Family_sub : Stmt := inClass (top 33) 7
theorem sc_Family_sub : FnScope ["self", "other", "word"] ["self", "other"] (defScope s_Family_sub) := ⟨rfl, rfl, rfl, by decide +kernel, rfl, by decide +kernel, by decide +kernel⟩
abbrev s_Family_len : Stmt := inClass (top 33) 10
theorem sc_Family_len : FnScope ["self"] ["self"] (defScope s_Family_len) := ⟨rfl, rfl, rfl, by decide +kernel, rfl, by decide +kernel, by decide +kernel⟩
abbrev s_Family_eq : Stmt := inClass (top 33) 12
theorem sc_Family_eq : FnScope ["self", "other"] ["self", "other"] (defScope s_Family_eq) := ⟨rfl, rfl, rfl, by decide +kernel, rfl, by decide +kernel, by decide +kernel⟩
abbrev s_Family_repr : Stmt := inClass (top 33) 13
theorem sc_Family_repr : FnScope ["self"] ["self"] (defScope s_Family_repr) := ⟨rfl, rfl, rfl, by decide +kernel, rfl, by decide +kernel, by decide +kernel⟩
abbrev s_law_bag : Stmt := top 35
theorem sc_law_bag : FnScope ["_law_script", "_law_at", "_law_cell", "_law_mixed", "_law_k", "_law_each"] ["_law_script", "_law_at"] (defScope s_law_bag) := ⟨rfl, rfl, rfl, by decide +kernel, rfl, by decide +kernel, by decide +kernel⟩
abbrev s_law_take : Stmt := top 36
theorem sc_law_take : FnScope ["_law_bag_here", "_law_many", "_law_digit"] ["_law_bag_here", "_law_many"] (defScope s_law_take) := ⟨rfl, rfl, rfl, by decide +kernel, rfl, by decide +kernel, by decide +kernel⟩
abbrev s_law_of : Stmt := top 37
theorem sc_law_of : FnScope ["_law_bag_here", "_law_some_here"] ["_law_bag_here", "_law_some_here"] (defScope s_law_of) := ⟨rfl, rfl, rfl, by decide +kernel, rfl, by decide +kernel, by decide +kernel⟩
abbrev s_law_licences : Stmt := top 38
theorem sc_law_licences : FnScope [] [] (defScope s_law_licences) := ⟨rfl, rfl, rfl, by decide +kernel, rfl, by decide +kernel, by decide +kernel⟩
abbrev s_law_some : Stmt := top 39
theorem sc_law_some : FnScope ["_law_bag_here", "_law_found", "_law_left", "_law_turn"] ["_law_bag_here"] (defScope s_law_some) := ⟨rfl, rfl, rfl, by decide +kernel, rfl, by decide +kernel, by decide +kernel⟩
abbrev s_law_sorted : Stmt := top 40
theorem sc_law_sorted : FnScope ["_law_words", "_law_one"] ["_law_words"] (defScope s_law_sorted) := ⟨rfl, rfl, rfl, by decide +kernel, rfl, by decide +kernel, by decide +kernel⟩
abbrev s_law_has : Stmt := top 41
theorem sc_law_has : FnScope ["_law_family", "_law_words"] ["_law_family", "_law_words"] (defScope s_law_has) := ⟨rfl, rfl, rfl, by decide +kernel, rfl, by decide +kernel, by decide +kernel⟩
abbrev s_law_signs_right : Stmt := top 42
theorem sc_law_signs_right : FnScope ["_law_one", "_law_other", "_law_first", "_law_second", "_law_word", "_law_within", "_law_same"] ["_law_one", "_law_other", "_law_first", "_law_second"] (defScope s_law_signs_right) := ⟨rfl, rfl, rfl, by decide +kernel, rfl, by decide +kernel, by decide +kernel⟩
abbrev s_law_three_right : Stmt := top 43
theorem sc_law_three_right : FnScope ["_law_one", "_law_other", "_law_third"] ["_law_one", "_law_other", "_law_third"] (defScope s_law_three_right) := ⟨rfl, rfl, rfl, by decide +kernel, rfl, by decide +kernel, by decide +kernel⟩
abbrev s_law : Stmt := top 44
theorem sc_law : FnScope ["_law_script", "_law_at", "_law_bag_here", "_law_turn", "_law_first", "_law_second", "_law_one", "_law_other", "_law_third", "_law_thing"] ["_law_script"] (defScope s_law) := ⟨rfl, rfl, rfl, by decide +kernel, rfl, by decide +kernel, by decide +kernel⟩
structure Ad where
  f_Family_init : Addr
  fd_Family_init : FuncData
  f_Family_is_within : Addr
  fd_Family_is_within : FuncData
  f_Family_and : Addr
  fd_Family_and : FuncData
  f_Family_or : Addr
  fd_Family_or : FuncData
  f_Family_sub : Addr
  fd_Family_sub : FuncData
  f_Family_len : Addr
  fd_Family_len : FuncData
  f_Family_eq : Addr
  fd_Family_eq : FuncData
  f_Family_repr : Addr
  fd_Family_repr : FuncData
  f_law_bag : Addr
  fd_law_bag : FuncData
  f_law_take : Addr
  fd_law_take : FuncData
  f_law_of : Addr
  fd_law_of : FuncData
  f_law_licences : Addr
  fd_law_licences : FuncData
  f_law_some : Addr
  fd_law_some : FuncData
  f_law_sorted : Addr
  fd_law_sorted : FuncData
  f_law_has : Addr
  fd_law_has : FuncData
  f_law_signs_right : Addr
  fd_law_signs_right : FuncData
  f_law_three_right : Addr
  fd_law_three_right : FuncData
  f_law : Addr
  fd_law : FuncData
  C_Family : Addr
  a_Family_LICENCES : Addr
structure Txt (K : PySem.W.Frag) (mg : Str → Option Value) (a : Ad) : Prop where
  F_Family_init : Fun K "__init__" "Family.__init__" s_Family_init a.f_Family_init a.fd_Family_init
  b_Family_init : Binds K a.fd_Family_init ["self", "words"] []
  m_Family_init : Meth K a.C_Family "__init__" a.f_Family_init
  F_Family_is_within : Fun K "is_within" "Family.is_within" s_Family_is_within a.f_Family_is_within a.fd_Family_is_within
  b_Family_is_within : Binds K a.fd_Family_is_within ["self", "other"] []
  m_Family_is_within : Meth K a.C_Family "is_within" a.f_Family_is_within
  F_Family_and : Fun K "__and__" "Family.__and__" s_Family_and a.f_Family_and a.fd_Family_and
  b_Family_and : Binds K a.fd_Family_and ["self", "other"] []
  m_Family_and : Meth K a.C_Family "__and__" a.f_Family_and
  F_Family_or : Fun K "__or__" "Family.__or__" s_Family_or a.f_Family_or a.fd_Family_or
  b_Family_or : Binds K a.fd_Family_or ["self", "other"] []
  m_Family_or : Meth K a.C_Family "__or__" a.f_Family_or
  F_Family_sub : Fun K "__sub__" "Family.__sub__" s_Family_sub a.f_Family_sub a.fd_Family_sub
  b_Family_sub : Binds K a.fd_Family_sub ["self", "other"] []
  m_Family_sub : Meth K a.C_Family "__sub__" a.f_Family_sub
  F_Family_len : Fun K "__len__" "Family.__len__" s_Family_len a.f_Family_len a.fd_Family_len
  b_Family_len : Binds K a.fd_Family_len ["self"] []
  m_Family_len : Meth K a.C_Family "__len__" a.f_Family_len
  F_Family_eq : Fun K "__eq__" "Family.__eq__" s_Family_eq a.f_Family_eq a.fd_Family_eq
  b_Family_eq : Binds K a.fd_Family_eq ["self", "other"] []
  m_Family_eq : Meth K a.C_Family "__eq__" a.f_Family_eq
  F_Family_repr : Fun K "__repr__" "Family.__repr__" s_Family_repr a.f_Family_repr a.fd_Family_repr
  b_Family_repr : Binds K a.fd_Family_repr ["self"] []
  m_Family_repr : Meth K a.C_Family "__repr__" a.f_Family_repr
  F_law_bag : Fun K "_law_bag" "_law_bag" s_law_bag a.f_law_bag a.fd_law_bag
  b_law_bag : Binds K a.fd_law_bag ["_law_script", "_law_at"] []
  g_law_bag : mg "_law_bag" = some (.ref a.f_law_bag)
  F_law_take : Fun K "_law_take" "_law_take" s_law_take a.f_law_take a.fd_law_take
  b_law_take : Binds K a.fd_law_take ["_law_bag_here", "_law_many"] []
  g_law_take : mg "_law_take" = some (.ref a.f_law_take)
  F_law_of : Fun K "_law_of" "_law_of" s_law_of a.f_law_of a.fd_law_of
  b_law_of : Binds K a.fd_law_of ["_law_bag_here", "_law_some_here"] []
  g_law_of : mg "_law_of" = some (.ref a.f_law_of)
  F_law_licences : Fun K "_law_licences" "_law_licences" s_law_licences a.f_law_licences a.fd_law_licences
  b_law_licences : Binds K a.fd_law_licences [] []
  g_law_licences : mg "_law_licences" = some (.ref a.f_law_licences)
  F_law_some : Fun K "_law_some" "_law_some" s_law_some a.f_law_some a.fd_law_some
  b_law_some : Binds K a.fd_law_some ["_law_bag_here"] []
  g_law_some : mg "_law_some" = some (.ref a.f_law_some)
  F_law_sorted : Fun K "_law_sorted" "_law_sorted" s_law_sorted a.f_law_sorted a.fd_law_sorted
  b_law_sorted : Binds K a.fd_law_sorted ["_law_words"] []
  g_law_sorted : mg "_law_sorted" = some (.ref a.f_law_sorted)
  F_law_has : Fun K "_law_has" "_law_has" s_law_has a.f_law_has a.fd_law_has
  b_law_has : Binds K a.fd_law_has ["_law_family", "_law_words"] []
  g_law_has : mg "_law_has" = some (.ref a.f_law_has)
  F_law_signs_right : Fun K "_law_signs_right" "_law_signs_right" s_law_signs_right a.f_law_signs_right a.fd_law_signs_right
  b_law_signs_right : Binds K a.fd_law_signs_right ["_law_one", "_law_other", "_law_first", "_law_second"] []
  g_law_signs_right : mg "_law_signs_right" = some (.ref a.f_law_signs_right)
  F_law_three_right : Fun K "_law_three_right" "_law_three_right" s_law_three_right a.f_law_three_right a.fd_law_three_right
  b_law_three_right : Binds K a.fd_law_three_right ["_law_one", "_law_other", "_law_third"] []
  g_law_three_right : mg "_law_three_right" = some (.ref a.f_law_three_right)
  F_law : Fun K "law" "law" s_law a.f_law a.fd_law
  b_law : Binds K a.fd_law ["_law_script"] []
  g_law : mg "law" = some (.ref a.f_law)
  g_Family : mg "Family" = some (.ref a.C_Family)
  cl_Family : Cls K a.C_Family
  ty_Family : TyC K a.C_Family
  cr_Family : ClX.CRead K a.C_Family (.type "type")
  mk_Family : Mk K a.C_Family a.f_Family_init
  ne_Family : NeC K a.C_Family
  ns_Family_list : PySem.W.subIn K (.type "list") (.ref a.C_Family) = some false
  ns_Family_tuple : PySem.W.subIn K (.type "tuple") (.ref a.C_Family) = some false
  ns_Family_str : PySem.W.subIn K (.type "str") (.ref a.C_Family) = some false
  ns_Family_NoneType : PySem.W.subIn K (.type "NoneType") (.ref a.C_Family) = some false
  ns_Family_int : PySem.W.subIn K (.type "int") (.ref a.C_Family) = some false
  sf_Family : PySem.W.selfFirst K a.C_Family = true
  cv_Family_LICENCES : ClX.CVal K a.C_Family (.type "type") "LICENCES" (.ref a.a_Family_LICENCES) (.ref a.a_Family_LICENCES)
  q_Family_LICENCES : ∀ H : Hp, SqT K H a.a_Family_LICENCES [.str "needs", .str "takes", .str "fixes", .str "ties", .str "keeps", .str "named", .str "call", .str "names", .str "renew", .str "copy"]
  no_Family_words : NoAttr K a.C_Family "words"
  n_abs : mg "abs" = none
  n_all : mg "all" = none
  n_enumerate : mg "enumerate" = none
  n_int : mg "int" = none
  n_isinstance : mg "isinstance" = none
  n_len : mg "len" = none
  n_list : mg "list" = none
  n_max : mg "max" = none
  n_min : mg "min" = none
  n_range : mg "range" = none
  n_repr : mg "repr" = none
  n_tuple : mg "tuple" = none
local macro_rules | `(tactic| array_mem_dec) => `(tactic| with_reducible first
  | assumption | exact upd_same
  | (apply upd_new; assumption; array_mem_dec)
  | (apply upd_old; tlg_ne; array_mem_dec)
  | (apply same_at; assumption; array_mem_dec))
local macro_rules | `(tactic| tlg_ne) => `(tactic| with_reducible first
  | assumption | (apply Ne.symm; assumption)
  | (apply ne_new; assumption; array_mem_dec) | (apply ne_new'; assumption; array_mem_dec)
  | (apply ne_of; assumption; assumption; (with_unfolding_all (intro z; cases z; done))))
local macro_rules | `(tactic| decreasing_trivial_pre_omega) => `(tactic| with_reducible first
  | assumption | (apply sqL_of; array_mem_dec) | (apply sqT_of; array_mem_dec)
  | (apply Same.seq; assumption; decreasing_trivial_pre_omega) | (apply sqT_same; assumption; decreasing_trivial_pre_omega)
  | (apply sqL_new; assumption; decreasing_trivial_pre_omega) | (apply sqL_upd; tlg_ne; decreasing_trivial_pre_omega))
local macro_rules | `(tactic| kpt_turns) => `(tactic| with_reducible first
  | assumption | exact Same.refl _ | (apply same_ext; kpt_turns; assumption) | (apply same_mut; kpt_turns; keq_hits) | (apply same_step; assumption; kpt_turns))
local macro_rules | `(tactic| keq_hits) => `(tactic| with_reducible first | assumption | (apply same_none; assumption; keq_hits))
local macro_rules | `(tactic| sizeOf_list_dec) => `(tactic| first | (with_reducible assumption) | (with_reducible_and_instances omega) | (with_unfolding_all decide))
local macro_rules | `(tactic| array_get_dec) => `(tactic| first | (with_reducible assumption) | (apply sz_of; (with_unfolding_all simp); done) | (apply sz_of; omega) | (apply sz_lt; (with_unfolding_all simp); done) | (apply sz_lt; omega))
local macro_rules | `(tactic| keq_rows) => `(tactic| with_reducible first
  | apply rd_asgN | apply rd_seq | apply rd_parA | apply rd_par3A | apply rd_par2 | apply rd_par3 | apply rd_m1 | apply rd_isStr | apply rd_cval | apply rd_asg | apply rd_gname | apply rd_op | (show tVar _ _ _ _; refine rd_var (by with_unfolding_all rfl) ?_) | apply rd_c | apply rd_I0
  | apply rd_cons | apply rd_nil | apply rd_cb | apply rd_test | apply rd_bl | apply rd_fld | apply rd_drop | apply rd_ret | apply rd_retN | apply rd_next
  | apply rd_ifS | apply rd_un | apply rd_B | apply rd_and | apply rd_or | apply rd_not | apply rd_andV | apply rd_orV | apply rd_notV | apply rd_if
  | apply rd_int | apply rd_abs | apply rd_max | apply rd_min | apply rd_strS | apply rd_U
  | apply rd_eqTx | apply rd_neTx | apply rd_inTx | apply rd_notInTx | apply rd_fmt | (show FmtK (.str (tx _)) _ _; refine rd_fmtT (by omega) ?_) | apply rd_jsC | apply rd_jsN | (show JsK _ (tx _) _ (.str (tx _)) _ _; refine rd_JsK (by first | omega | (simp; done) | (simp; omega)) ?_) | (show rAddStr (.str (tx _)) (.str (tx _)) _ _; refine rd_addT (by first | omega | (simp; done) | (simp; omega)) ?_) | (show rLenStr [.str (tx _)] _ _; refine rd_lenTx (by omega) ?_)
  | (show rEq _ _ _ _; refine rd_eq (by with_unfolding_all rfl) ?_) | (show rNe _ _ _ _; refine rd_ne (by with_unfolding_all rfl) ?_) | apply rd_isNone | apply rd_notNone
  | (show rIxL _ _ _ _ _; refine rd_ixL (by decreasing_trivial_pre_omega) (by with_unfolding_all rfl) ?_) | (show rIxT _ _ _ _ _; refine rd_ixT (by decreasing_trivial_pre_omega) (by with_unfolding_all rfl) ?_)
  | (show rLenSeq _ _ _ _; refine rd_lenL (by decreasing_trivial_pre_omega) ?_) | (show rLenSeq _ _ _ _; refine rd_lenT (by decreasing_trivial_pre_omega) ?_)
  | (show rI _ _ _ _ _ _; refine rd_mod (by sizeOf_list_dec) ?_) | (show rI _ _ _ _ _ _; refine rd_div (by sizeOf_list_dec) (by sizeOf_list_dec) ?_) | (show rI _ _ _ _ _ _; refine rd_mulR (by sizeOf_list_dec) (by sizeOf_list_dec) ?_) | (show rI _ _ _ _ _ _; refine rd_mulL (by sizeOf_list_dec) (by sizeOf_list_dec) ?_) | (show rI _ _ _ _ _ _; refine rd_pow (by sizeOf_list_dec) ?_)
  | (show rSetL _ _ _ _ _; refine rd_setL (by array_mem_dec) (by with_unfolding_all rfl) ?_)
  | (show rSlL _ _ _ _ _ _; refine rd_slL (by decreasing_trivial_pre_omega) ?_) | apply rd_inSign | apply rd_notInSign | apply rd_tup | apply rd_lst | apply rd_sl | apply rd_noPart | apply rd_part | apply rd_isInt
  | apply rd_gsub | apply rd_gcons | apply rd_gnil | apply rd_call | apply rd_meth | apply rd_make | apply rd_smeth | apply rd_isC | apply rd_smethK | apply rd_cmeth | apply rd_cmethK
  | apply rd_bm | apply rd_bm0 | (show BmK _ _ _ _ _ _ _ _; refine rd_bmL (by array_mem_dec) ?_) | (show Bm0K _ _ _ _ _ _; refine rd_bm0L (by array_mem_dec) ?_) | apply rd_sfld | apply rd_aug | apply rd_rAdd | apply rd_brk | apply rd_cont
  | apply rd_for | apply rd_iList | (show IList _ _ _ _; refine rd_IList (by decreasing_trivial_pre_omega) ?_) | apply rd_iTup | (show ITup _ _ _ _; refine rd_ITup (by decreasing_trivial_pre_omega) ?_) | apply rd_iEnum | (show IEnum _ _ _ _; refine rd_IEnum (by decreasing_trivial_pre_omega) ?_) | apply rd_iRng1 | (show IRng1 _ _ _; refine rd_IRng1 (by sizeOf_list_dec) (by sizeOf_list_dec) ?_)
  | (show List.length _ ≤ sizeLine ∧ _; refine rd_new (by array_get_dec) ?_) | (show rLenStr _ _ _; refine rd_lenS (by array_get_dec) ?_) | (show rAddStr _ _ _ _; refine rd_addS (by array_get_dec) ?_) | (show rSlS _ _ _ _ _; refine rd_slS (by array_get_dec) ?_) | apply rd_lc | apply rd_yes | (show gTup _ _ _ _ _ _ _; refine rd_gtup (by decreasing_trivial_pre_omega) (by with_unfolding_all rfl) ?_) | (show tMakeL _ _ _ _ _ _ _ _; refine rd_makeL (by with_unfolding_all rfl) ?_))
local macro_rules | `(tactic| kas_types) => `(tactic| with_reducible first | apply rd_isi_int_int | apply rd_isi_int_bool | apply rd_isi_int_str | apply rd_isi_int_list | apply rd_isi_int_tuple | apply rd_isi_bool_int | apply rd_isi_bool_bool | apply rd_isi_bool_str | apply rd_isi_bool_list | apply rd_isi_bool_tuple | apply rd_isi_str_int | apply rd_isi_str_bool | apply rd_isi_str_str | apply rd_isi_str_list | apply rd_isi_str_tuple | (show rIsi _ _ _ _; refine rd_isi_list_int (by array_mem_dec) ?_) | (show rIsi _ _ _ _; refine rd_isi_list_bool (by array_mem_dec) ?_) | (show rIsi _ _ _ _; refine rd_isi_list_str (by array_mem_dec) ?_) | (show rIsi _ _ _ _; refine rd_isi_list_list (by array_mem_dec) ?_) | (show rIsi _ _ _ _; refine rd_isi_list_tuple (by array_mem_dec) ?_) | (show rIsi _ _ _ _; refine rd_isi_tuple_int (by array_mem_dec) ?_) | (show rIsi _ _ _ _; refine rd_isi_tuple_bool (by array_mem_dec) ?_) | (show rIsi _ _ _ _; refine rd_isi_tuple_str (by array_mem_dec) ?_) | (show rIsi _ _ _ _; refine rd_isi_tuple_list (by array_mem_dec) ?_) | (show rIsi _ _ _ _; refine rd_isi_tuple_tuple (by array_mem_dec) ?_) | apply rd_isi_NoneType_int | apply rd_isi_NoneType_bool | apply rd_isi_NoneType_str | apply rd_isi_NoneType_list | apply rd_isi_NoneType_tuple)
local macro_rules | `(tactic| lcg_src) => `(tactic| repeat keq_rows)

section
variable {P : Program} {w : World} {K : PySem.W.Frag} {mg : Str → Option Value} {base : Heap} {a : Ad}
/-- a draw: the bag's two numbers turn, the answer lies below n -/
def sp_law_take : Sp := fun vs H Q _ => ∃ (b : Addr) (d m n : Int), vs = [.ref b, .int n] ∧ H b = some (.lst [.int d, .int m]) ∧ 0 < n ∧ n < 2 ^ 100 ∧
  ∀ r d' m' : Int, 0 ≤ r → r < n → Q (.int r) (upd H b (.lst [.int d', .int m']))
theorem ok_law_take (T : Txt K mg a) : FnOk P w K mg base CX0 1 a.f_law_take a.fd_law_take ["_law_bag_here", "_law_many"]  sp_law_take := by
  refine T.F_law_take.ok sc_law_take (fun vs H Q E h => ?_) (fun cdv A outer s H vs Q E hr h => ?_)
  · obtain ⟨b, d, m, n, rfl, _⟩ := h
    rfl
  · obtain ⟨b, d, m, n, rfl, hb, h0, h1, k⟩ := h
    refine ⟨_, ((pss_cons (ps_if (pt_cmpR op_gt (pe_ix ix_list (pv 0) pe_int (fun _ _ => rfl)) pe_int (nomark _))
 (pss_cons (ps_set (i := 2) sc_law_take.nd rfl (Or.inl rfl) (pe_op op_mod (pe_callTy call_intI (by rfl) T.n_int (by decide +kernel) (pa_cons (pe_ix ix_list (pv 0) pe_int (fun _ _ => rfl)) pa_nil)) (pv 1)))
 (pss_cons (ps_asg (pe_op op_fdivW (pe_ix ix_list (pv 0) pe_int (fun _ _ => rfl)) (pv 1)) (pg_sub (pv 0) pe_int set_list))
 (pss_one (ps_ret (pv 2)))))
 pss_nil)
 (pss_cons (ps_asg (pe_op op_mod (pe_callTy call_intI (by rfl) T.n_int (by decide +kernel) (pa_cons (pe_op op_add (pe_op op_mul (pe_ix ix_list (pv 0) pe_int (fun _ _ => rfl)) pe_int) pe_int) pa_nil)) pe_int) (pg_sub (pv 0) pe_int set_list))
 (pss_one (ps_ret (pe_op op_mod (pe_op op_fdivW (pe_op op_mod (pe_callTy call_intI (by rfl) T.n_int (by decide +kernel) (pa_cons (pe_op op_mul (pe_op op_fdivW (pe_ix ix_list (pv 0) pe_int (fun _ _ => rfl)) pe_int) pe_int) pa_nil)) pe_int) pe_int) (pv 1))))))), ?_⟩
    try simp only [cxK]
    lcg_src
    refine ifD (fun c => ?_) (fun c => ?_)
    · lcg_src
      exact k _ _ _ (Int.emod_nonneg _ (by omega)) (Int.emod_lt_of_pos _ h0)
    · lcg_src
      exact k _ _ _ (Int.emod_nonneg _ (by omega)) (Int.emod_lt_of_pos _ h0)
/-- a new bag -/
def sp_law_bag (K : PySem.W.Frag) : Sp := fun vs H Q _ => ∃ (sc : Addr) (ns : List Int) (at_ : Int), vs = [.ref sc, .int at_] ∧ SqL K H sc (ns.map V.int) ∧ 0 ≤ at_ ∧ at_ < 100 ∧ ns.length ≤ 63 ∧
  ∀ (p : Addr) (d m : Int) (H' : Hp), Same H H' → H p = none → H' p = some (.lst [.int d, .int m]) → Q (.ref p) H'
theorem atI_ints {ns : List Int} {i : Int} (h0 : 0 ≤ i) (h1 : i < (ns.length : Int)) : ∃ z, atI (ns.map V.int) i = some (.int z) := by
  have e : i.toNat < ns.length := by omega
  refine ⟨ns[i.toNat], ?_⟩
  unfold atI ixN
  rw [List.length_map, if_pos h0, if_pos h1]
  simp [e]
theorem cut_ints {ns : List Int} {lo hi : Option Int} {i : Nat} {x : V} (h : (cutV (ns.map V.int) lo hi)[i]? = some x) : ∃ y, x = .int y := by
  have hm := List.mem_of_getElem? h
  unfold cutV at hm
  have hm := List.mem_of_mem_drop (List.mem_of_mem_take hm)
  obtain ⟨y, _, e⟩ := List.mem_map.mp hm
  exact ⟨y, e.symm⟩
theorem ok_law_bag (T : Txt K mg a) : FnOk P w K mg base CX0 1 a.f_law_bag a.fd_law_bag ["_law_script", "_law_at"]  (sp_law_bag K) := by
  refine T.F_law_bag.ok sc_law_bag (fun vs H Q E h => ?_) (fun cdv A outer s H vs Q E hr h => ?_)
  · obtain ⟨_, _, _, rfl, _⟩ := h
    rfl
  · obtain ⟨sc, ns, at_, rfl, hS, h0, h1, hl, k⟩ := h
    refine ⟨_, ((Evl.pss_cut (ps_set (i := 2) sc_law_bag.nd rfl (Or.inl rfl) (pe_ifExp (pt_cmpR op_lt (pv 1) (pe_callB call_lenSeq (by rfl) T.n_len (by decide +kernel) (pa_cons (pv 0) pa_nil)) (nomark _)) (pe_ix ix_list (pv 0) (pv 1) (fun _ _ => rfl)) pe_int))
 (pss_cons (ps_set (i := 3) sc_law_bag.nd rfl (Or.inl rfl) (pe_op op_add (pe_op op_mul pe_int (pv 1)) pe_int))
 (pss_cons (ps_for PassesOwn.never rfl (pi_enum (by rfl) T.n_enumerate (pa_cons (pe_slice sl_list (pv 0) po_none (po_some pe_int)) pa_nil)) (pg_tup rfl (pgs_cons (pg_name (i := 4) sc_law_bag.nd rfl (Or.inl rfl)) (pgs_cons (pg_name (i := 5) sc_law_bag.nd rfl (Or.inl rfl)) pgs_nil)))
 (pss_one (ps_set (i := 3) sc_law_bag.nd rfl (Or.inl rfl) (pe_op op_mod (pe_callTy call_intI (by rfl) T.n_int (by decide +kernel) (pa_cons (pe_op op_add (pe_op op_add (pe_op op_mul (pv 3) pe_int) (pe_op op_mod (pe_callTy call_intI (by rfl) T.n_int (by decide +kernel) (pa_cons (pv 5) pa_nil)) pe_int)) (pe_op op_mul pe_int (pv 4))) pa_nil)) pe_int))))
 (pss_one (ps_ret (pe_lst (pa_cons (pe_ifExp (pt_cmpR op_ge (pe_callB call_absI (by rfl) T.n_abs (by decide +kernel) (pa_cons (pv 2) pa_nil)) (pe_op op_pow pe_int pe_int) (nomark _)) (pe_callB call_absI (by rfl) T.n_abs (by decide +kernel) (pa_cons (pv 2) pa_nil)) pe_int) (pa_cons (pv 3) pa_nil))))))))), ?_⟩
    try simp only [cxK]
    refine rd_cut (fun σ' H' => H' = H ∧ ∃ z : Int, σ' = [some (.ref sc), some (.int at_), some (.int z), none, none, none]) ?_ ?_
    · lcg_src
      refine ifD (fun c => ?_) (fun c => ?_)
      · rw [List.length_map] at c
        obtain ⟨z, hz⟩ := atI_ints h0 c
        lcg_src
        refine rd_ixL hS hz ?_
        lcg_src
        exact ⟨rfl, z, rfl⟩
      · lcg_src
        exact ⟨rfl, 0, rfl⟩
    · rintro σ' H' ⟨rfl, z, rfl⟩
      lcg_src
      intro l hl
      lcg_src
      refine fk_enum (xs := cutV (ns.map V.int) none (some 63)) (fun i σ H2 => Same (upd H' l (.lst (cutV (ns.map V.int) none (some 63)))) H2 ∧ ∃ (m : Int) (u v : Option V), σ = [some (.ref sc), some (.int at_), some (.int z), some (.int m), u, v])
        ⟨Same.refl _, _, _, _, rfl⟩ (fun i σ H2 _ ⟨s2, _⟩ => sqL_of (s2 _ _ upd_same)) ?_ ?_
      · rintro i x T0 σ H2 hx hT ⟨s2, m, u, v, rfl⟩
        obtain ⟨y, rfl⟩ := cut_ints hx
        lcg_src
        exact ⟨s2.trans (same_new hT), _, _, _, rfl⟩
      · rintro σ H2 ⟨s2, m, u, v, rfl⟩
        lcg_src
        refine rd_pow ⟨by decide, by decide, by decide⟩ ?_
        lcg_src
        refine ifD (fun c => ?_) (fun c => ?_)
        all_goals
          lcg_src
          intro p hp
          have s3 : Same H' H2 := (same_new hl).trans s2
          exact k _ _ _ _ (s3.trans (same_new hp)) (s3.free hp) upd_same
end
end K87

namespace K87
open PySem L2 Hk
local macro_rules | `(tactic| array_mem_dec) => `(tactic| with_reducible first
  | assumption | exact upd_same
  | (apply upd_new; assumption; array_mem_dec)
  | (apply upd_old; tlg_ne; array_mem_dec)
  | (apply same_at; assumption; array_mem_dec))
local macro_rules | `(tactic| tlg_ne) => `(tactic| with_reducible first
  | assumption | (apply Ne.symm; assumption)
  | (apply ne_new; assumption; array_mem_dec) | (apply ne_new'; assumption; array_mem_dec)
  | (apply ne_of; assumption; assumption; (with_unfolding_all (intro z; cases z; done))))
local macro_rules | `(tactic| decreasing_trivial_pre_omega) => `(tactic| with_reducible first
  | assumption | (apply sqL_of; array_mem_dec) | (apply sqT_of; array_mem_dec)
  | (apply Same.seq; assumption; decreasing_trivial_pre_omega) | (apply sqT_same; assumption; decreasing_trivial_pre_omega)
  | (apply sqL_new; assumption; decreasing_trivial_pre_omega) | (apply sqL_upd; tlg_ne; decreasing_trivial_pre_omega))
local macro_rules | `(tactic| kpt_turns) => `(tactic| with_reducible first
  | assumption | exact Same.refl _ | (apply same_ext; kpt_turns; assumption) | (apply same_mut; kpt_turns; keq_hits) | (apply same_step; assumption; kpt_turns))
local macro_rules | `(tactic| keq_hits) => `(tactic| with_reducible first | assumption | (apply same_none; assumption; keq_hits))
local macro_rules | `(tactic| sizeOf_list_dec) => `(tactic| first | (with_reducible assumption) | (with_reducible_and_instances omega) | (with_unfolding_all decide))
local macro_rules | `(tactic| array_get_dec) => `(tactic| first | (with_reducible assumption) | (apply sz_of; (with_unfolding_all simp); done) | (apply sz_of; omega) | (apply sz_lt; (with_unfolding_all simp); done) | (apply sz_lt; omega))
local macro_rules | `(tactic| keq_rows) => `(tactic| with_reducible first
  | apply rd_asgN | apply rd_seq | apply rd_parA | apply rd_par3A | apply rd_par2 | apply rd_par3 | apply rd_m1 | apply rd_isStr | apply rd_cval | apply rd_asg | apply rd_gname | apply rd_op | (show tVar _ _ _ _; refine rd_var (by with_unfolding_all rfl) ?_) | apply rd_c | apply rd_I0
  | apply rd_cons | apply rd_nil | apply rd_cb | apply rd_test | apply rd_bl | apply rd_fld | apply rd_drop | apply rd_ret | apply rd_retN | apply rd_next
  | apply rd_ifS | apply rd_un | apply rd_B | apply rd_and | apply rd_or | apply rd_not | apply rd_andV | apply rd_orV | apply rd_notV | apply rd_if
  | apply rd_int | apply rd_abs | apply rd_max | apply rd_min | apply rd_strS | apply rd_U
  | apply rd_eqTx | apply rd_neTx | apply rd_inTx | apply rd_notInTx | apply rd_fmt | (show FmtK (.str (tx _)) _ _; refine rd_fmtT (by omega) ?_) | apply rd_jsC | apply rd_jsN | (show JsK _ (tx _) _ (.str (tx _)) _ _; refine rd_JsK (by first | omega | (simp; done) | (simp; omega)) ?_) | (show rAddStr (.str (tx _)) (.str (tx _)) _ _; refine rd_addT (by first | omega | (simp; done) | (simp; omega)) ?_) | (show rLenStr [.str (tx _)] _ _; refine rd_lenTx (by omega) ?_)
  | (show rEq _ _ _ _; refine rd_eq (by with_unfolding_all rfl) ?_) | (show rNe _ _ _ _; refine rd_ne (by with_unfolding_all rfl) ?_) | apply rd_isNone | apply rd_notNone
  | (show rIxL _ _ _ _ _; refine rd_ixL (by decreasing_trivial_pre_omega) (by with_unfolding_all rfl) ?_) | (show rIxT _ _ _ _ _; refine rd_ixT (by decreasing_trivial_pre_omega) (by with_unfolding_all rfl) ?_)
  | (show rLenSeq _ _ _ _; refine rd_lenL (by decreasing_trivial_pre_omega) ?_) | (show rLenSeq _ _ _ _; refine rd_lenT (by decreasing_trivial_pre_omega) ?_)
  | (show rI _ _ _ _ _ _; refine rd_mod (by sizeOf_list_dec) ?_) | (show rI _ _ _ _ _ _; refine rd_div (by sizeOf_list_dec) (by sizeOf_list_dec) ?_) | (show rI _ _ _ _ _ _; refine rd_mulR (by sizeOf_list_dec) (by sizeOf_list_dec) ?_) | (show rI _ _ _ _ _ _; refine rd_mulL (by sizeOf_list_dec) (by sizeOf_list_dec) ?_) | (show rI _ _ _ _ _ _; refine rd_pow (by sizeOf_list_dec) ?_)
  | (show rSetL _ _ _ _ _; refine rd_setL (by array_mem_dec) (by with_unfolding_all rfl) ?_)
  | (show rSlL _ _ _ _ _ _; refine rd_slL (by decreasing_trivial_pre_omega) ?_) | apply rd_inSign | apply rd_notInSign | apply rd_tup | apply rd_lst | apply rd_sl | apply rd_noPart | apply rd_part | apply rd_isInt
  | apply rd_gsub | apply rd_gcons | apply rd_gnil | apply rd_call | apply rd_meth | apply rd_make | apply rd_smeth | apply rd_isC | apply rd_smethK | apply rd_cmeth | apply rd_cmethK
  | apply rd_bm | apply rd_bm0 | (show BmK _ _ _ _ _ _ _ _; refine rd_bmL (by array_mem_dec) ?_) | (show Bm0K _ _ _ _ _ _; refine rd_bm0L (by array_mem_dec) ?_) | apply rd_sfld | apply rd_aug | apply rd_rAdd | apply rd_brk | apply rd_cont
  | apply rd_for | apply rd_iList | (show IList _ _ _ _; refine rd_IList (by decreasing_trivial_pre_omega) ?_) | apply rd_iTup | (show ITup _ _ _ _; refine rd_ITup (by decreasing_trivial_pre_omega) ?_) | apply rd_iEnum | (show IEnum _ _ _ _; refine rd_IEnum (by decreasing_trivial_pre_omega) ?_) | apply rd_iRng1 | (show IRng1 _ _ _; refine rd_IRng1 (by sizeOf_list_dec) (by sizeOf_list_dec) ?_)
  | (show List.length _ ≤ sizeLine ∧ _; refine rd_new (by array_get_dec) ?_) | (show rLenStr _ _ _; refine rd_lenS (by array_get_dec) ?_) | (show rAddStr _ _ _ _; refine rd_addS (by array_get_dec) ?_) | (show rSlS _ _ _ _ _; refine rd_slS (by array_get_dec) ?_) | apply rd_lc | apply rd_yes | (show gTup _ _ _ _ _ _ _; refine rd_gtup (by decreasing_trivial_pre_omega) (by with_unfolding_all rfl) ?_) | (show tMakeL _ _ _ _ _ _ _ _; refine rd_makeL (by with_unfolding_all rfl) ?_))
local macro_rules | `(tactic| kas_types) => `(tactic| with_reducible first | apply rd_isi_int_int | apply rd_isi_int_bool | apply rd_isi_int_str | apply rd_isi_int_list | apply rd_isi_int_tuple | apply rd_isi_bool_int | apply rd_isi_bool_bool | apply rd_isi_bool_str | apply rd_isi_bool_list | apply rd_isi_bool_tuple | apply rd_isi_str_int | apply rd_isi_str_bool | apply rd_isi_str_str | apply rd_isi_str_list | apply rd_isi_str_tuple | (show rIsi _ _ _ _; refine rd_isi_list_int (by array_mem_dec) ?_) | (show rIsi _ _ _ _; refine rd_isi_list_bool (by array_mem_dec) ?_) | (show rIsi _ _ _ _; refine rd_isi_list_str (by array_mem_dec) ?_) | (show rIsi _ _ _ _; refine rd_isi_list_list (by array_mem_dec) ?_) | (show rIsi _ _ _ _; refine rd_isi_list_tuple (by array_mem_dec) ?_) | (show rIsi _ _ _ _; refine rd_isi_tuple_int (by array_mem_dec) ?_) | (show rIsi _ _ _ _; refine rd_isi_tuple_bool (by array_mem_dec) ?_) | (show rIsi _ _ _ _; refine rd_isi_tuple_str (by array_mem_dec) ?_) | (show rIsi _ _ _ _; refine rd_isi_tuple_list (by array_mem_dec) ?_) | (show rIsi _ _ _ _; refine rd_isi_tuple_tuple (by array_mem_dec) ?_) | apply rd_isi_NoneType_int | apply rd_isi_NoneType_bool | apply rd_isi_NoneType_str | apply rd_isi_NoneType_list | apply rd_isi_NoneType_tuple)
local macro_rules | `(tactic| lcg_src) => `(tactic| repeat keq_rows)

local macro_rules | `(tactic| lcg_off) => `(tactic| repeat keq_rows)
/-! ### the licences -/
def LICS : List (List Nat) := [[110, 101, 101, 100, 115], [116, 97, 107, 101, 115], [102, 105, 120, 101, 115], [116, 105, 101, 115], [107, 101, 101, 112, 115], [110, 97, 109, 101, 100], [99, 97, 108, 108], [110, 97, 109, 101, 115], [114, 101, 110, 101, 119], [99, 111, 112, 121]]
theorem lics_eq : ([.str "needs", .str "takes", .str "fixes", .str "ties", .str "keeps", .str "named", .str "call", .str "names", .str "renew", .str "copy"] : List V) = LICS.map wd := by decide +kernel
theorem lics_okT : ∀ w ∈ LICS, okT w := by unfold okT; decide
def fam (ws : List (List Nat)) : List (List Nat) := LICS.filter fun w => decide (w ∈ ws)
theorem fam_sub {ws : List (List Nat)} {w : List Nat} (h : w ∈ fam ws) : w ∈ LICS := (List.mem_filter.mp h).1
theorem fam_okT {ws : List (List Nat)} : ∀ w ∈ fam ws, okT w := fun w h => lics_okT w (fam_sub h)
theorem fam_len (ws : List (List Nat)) : (fam ws).length ≤ 10 := List.length_filter_le _ _
def Keep (b : Addr) (H H' : Hp) : Prop := ∀ c o, c ≠ b → H c = some o → H' c = some o
theorem keep_new {b p : Addr} {H H1 : Hp} {o : HO} (k : Keep b H H1) (h : H1 p = none) : Keep b H (upd H1 p o) := fun c o' hc e => upd_new h (k c o' hc e)
theorem keep_bag {b : Addr} {H H1 : Hp} {o : HO} (k : Keep b H H1) : Keep b H (upd H1 b o) := fun c o' hc e => upd_old hc (k c o' hc e)
theorem keep_own {b p : Addr} {H H1 : Hp} {o : HO} (k : Keep b H H1) (h : H p = none) : Keep b H (upd H1 p o) := fun c o' hc e => upd_old (ne_of_none e h) (k c o' hc e)
theorem keep_refl {b : Addr} {H : Hp} : Keep b H H := fun _ _ _ e => e
theorem keep_trans {b : Addr} {H H1 H2 : Hp} (k : Keep b H H1) (k2 : Keep b H1 H2) : Keep b H H2 := fun c o hc e => k2 c o hc (k c o hc e)
theorem keep_same {b : Addr} {H H1 H2 : Hp} (k : Keep b H H1) (k2 : Same H1 H2) : Keep b H H2 := fun c o hc e => k2 c o (k c o hc e)
section
variable {P : Program} {w : World} {K : PySem.W.Frag} {mg : Str → Option Value} {base : Heap} {a : Ad}
/-- one of a list's items -/
def sp_law_of (K : PySem.W.Frag) : Sp := fun vs H Q _ => ∃ (b l : Addr) (d m : Int) (xs : List V), vs = [.ref b, .ref l] ∧ H b = some (.lst [.int d, .int m]) ∧ SqL K H l xs ∧ l ≠ b ∧ 0 < xs.length ∧ xs.length < 1000 ∧
  ∀ (x : V) (d' m' : Int), x ∈ xs → Q x (upd H b (.lst [.int d', .int m']))
theorem ok_law_of (T : Txt K mg a) : FnOk P w K mg base CX0 2 a.f_law_of a.fd_law_of ["_law_bag_here", "_law_some_here"]  (sp_law_of K) := by
  refine T.F_law_of.ok sc_law_of (fun vs H Q E h => ?_) (fun cdv A outer s H vs Q E hr h => ?_)
  · obtain ⟨_, _, _, _, _, rfl, _⟩ := h
    rfl
  · obtain ⟨b, l, d, m, xs, rfl, hb, hl, hn, h0, h1, k⟩ := h
    refine ⟨_, ((pss_one (ps_ret (pe_ix ix_list (pv 1) (pe_call (ok_law_take T) hr rfl T.g_law_take T.F_law_take.kp T.b_law_take .nil pass0 (pa_cons (pv 0) (pa_cons (pe_callB call_lenSeq (by rfl) T.n_len (by decide +kernel) (pa_cons (pv 1) pa_nil)) pa_nil))) (fun _ _ => rfl))))), ?_⟩
    try simp only [cxK]
    lcg_off
    refine ⟨b, d, m, _, rfl, hb, by omega, by omega, fun r d' m' r0 r1 => ?_⟩
    obtain ⟨c, hc, hm⟩ := atI_mem r0 r1
    refine rd_ixL (sqL_upd hn hl) hc ?_
    exact k c d' m' hm
def sp_law_licences : Sp := fun vs H Q _ => vs = [] ∧ ∀ p, H p = none → Q (.ref p) (upd H p (.lst (LICS.map wd)))
theorem ok_law_licences (T : Txt K mg a) : FnOk P w K mg base CX0 1 a.f_law_licences a.fd_law_licences []  sp_law_licences := by
  refine T.F_law_licences.ok sc_law_licences (fun vs H Q E h => ?_) (fun cdv A outer s H vs Q E hr h => ?_)
  · obtain ⟨rfl, _⟩ := h
    rfl
  · obtain ⟨rfl, k⟩ := h
    refine ⟨_, ((pss_one (ps_ret (pe_lst (pa_cons pe_str (pa_cons pe_str (pa_cons pe_str (pa_cons pe_str (pa_cons pe_str (pa_cons pe_str (pa_cons pe_str (pa_cons pe_str (pa_cons pe_str (pa_cons pe_str pa_nil)))))))))))))), ?_⟩
    try simp only [cxK]
    lcg_off
    intro p hp
    rw [lics_eq]
    exact k p hp
def sp_law_sorted (K : PySem.W.Frag) : Sp := fun vs H Q _ => ∃ (l : Addr) (ws : List (List Nat)), vs = [.ref l] ∧ SqL K H l (ws.map wd) ∧ ∀ D H', H D = none → Same H H' → H' D = some (.lst ((fam ws).map wd)) → Q (.ref D) H'
theorem ok_law_sorted (T : Txt K mg a) : FnOk P w K mg base CX0 2 a.f_law_sorted a.fd_law_sorted ["_law_words"]  (sp_law_sorted K) := by
  refine T.F_law_sorted.ok sc_law_sorted (fun vs H Q E h => ?_) (fun cdv A outer s H vs Q E hr h => ?_)
  · obtain ⟨_, _, rfl, _⟩ := h
    rfl
  · obtain ⟨l, ws, rfl, hl, k⟩ := h
    refine ⟨_, ((pss_one (ps_ret (pe_lc (own := [("_law_one", 1)]) (g := gName 1) rfl sc_law_sorted.nd (pi_list (pe_call0 (ok_law_licences T) hr rfl T.g_law_licences T.F_law_licences.kp T.b_law_licences .nil pass0)) (blkOk_by (own := [("_law_one", 1)]) (N := ["_law_words", "_law_one"]) (sc := defScope s_law_sorted) (by decide +kernel)) (fun _ _ _ _ _ => (pg_name (i := 1) sc_law_sorted.nd rfl (Or.inl rfl))) (fun _ _ _ _ _ => (pts_one (pt_cmpR (op_inSeqK (K := K)) (pv 1) (pv 0) (by rfl)))) (fun _ _ _ _ _ => (pv 1)))))), ?_⟩
    try simp only [cxK]
    lcg_off
    refine ⟨rfl, fun p hp => ?_⟩
    lcg_off
    refine lcL (rows := LICS) (by simp) (by decide) (sqL_of upd_same) (fun w => decide (w ∈ ws)) wd (fun i x r H1 hx hr1 s1 Done Kept hd hk => ?_) fun D H' hD s1 h1 => k D H' ((same_new hp).free hD) ((same_new hp).trans s1) h1
    rw [List.getElem?_map, hr1] at hx
    obtain rfl : wd r = x := Option.some.inj hx
    unfold wd
    lcg_off
    refine ⟨rfl, ?_⟩
    lcg_off
    refine rd_inWL (((same_new hp).trans s1).seq hl) ?_
    lcg_off
    refine ifB (fun c => ?_) (fun c => ?_)
    · lcg_off
      exact hk H1 (Same.refl _) c
    · exact hd H1 (Same.refl _) c
theorem map_erase {ls : List (List Nat)} {k : Nat} : (ls.map wd).eraseIdx k = (ls.eraseIdx k).map wd := by
  induction ls generalizing k with
  | nil => simp
  | cons x ls ih =>
    cases k with
    | zero => simp
    | succ k => simp [ih]
def sp_law_some : Sp := fun vs H Q _ => ∃ (b : Addr) (d m : Int), vs = [.ref b] ∧ H b = some (.lst [.int d, .int m]) ∧
  ∀ (p : Addr) (ws : List (List Nat)) (H' : Hp) (d' m' : Int), (∀ w ∈ ws, w ∈ LICS) → ws.length ≤ 20 → H p = none → Keep b H H' → H' b = some (.lst [.int d', .int m']) → H' p = some (.lst (ws.map wd)) → Q (.ref p) H'
theorem ok_law_some (T : Txt K mg a) : FnOk P w K mg base CX0 3 a.f_law_some a.fd_law_some ["_law_bag_here"]  sp_law_some := by
  refine T.F_law_some.ok sc_law_some (fun vs H Q E h => ?_) (fun cdv A outer s H vs Q E hr h => ?_)
  · obtain ⟨_, _, _, rfl, _⟩ := h
    rfl
  · obtain ⟨b, d, m, rfl, hb, k⟩ := h
    refine ⟨_, ((pss_cons (ps_par (i := 1) (j := 2) (by rfl) sc_law_some.nd rfl rfl (by decide) rfl rfl (pa_cons (pe_lst pa_nil) (pa_cons (pe_call0 (ok_law_licences T) (hr.mono (by decide)) rfl T.g_law_licences T.F_law_licences.kp T.b_law_licences .nil pass0) pa_nil)) (by rfl))
 (pss_cons (ps_for PassesOwn.never rfl (pi_range1 rfl T.n_range (pa_cons (pe_call (ok_law_take T) (hr.mono (by decide)) rfl T.g_law_take T.F_law_take.kp T.b_law_take .nil pass0 (pa_cons (pv 0) (pa_cons pe_int pa_nil))) pa_nil)) (pg_name (i := 3) sc_law_some.nd rfl (Or.inl rfl))
 (pss_cons (ps_expr (pe_bm PySem.F.plainAttrs_list PySem.F.slot_list_append PySem.F.type_list_append mt_append (pv 1) (pa_cons (pe_bm PySem.F.plainAttrs_list PySem.F.slot_list_pop PySem.F.type_list_pop mt_popAt (pv 2) (pa_cons (pe_call (ok_law_take T) (hr.mono (by decide)) rfl T.g_law_take T.F_law_take.kp T.b_law_take .nil pass0 (pa_cons (pv 0) (pa_cons (pe_callB call_lenSeq (by rfl) T.n_len (by decide +kernel) (pa_cons (pv 2) pa_nil)) pa_nil))) pa_nil)) pa_nil)))
 (pss_one (ps_if (pt_cmpR op_eq (pe_call (ok_law_take T) (hr.mono (by decide)) rfl T.g_law_take T.F_law_take.kp T.b_law_take .nil pass0 (pa_cons (pv 0) (pa_cons pe_int pa_nil))) pe_int (nomark _))
 (pss_one (ps_expr (pe_bm PySem.F.plainAttrs_list PySem.F.slot_list_append PySem.F.type_list_append mt_append (pv 1) (pa_cons (pe_call (ok_law_of T) hr rfl T.g_law_of T.F_law_of.kp T.b_law_of .nil pass0 (pa_cons (pv 0) (pa_cons (pv 1) pa_nil))) pa_nil))))
 pss_nil))))
 (pss_one (ps_ret (pv 1)))))), ?_⟩
    try simp only [cxK]
    lcg_off
    intro F hF
    lcg_off
    refine ⟨rfl, fun L hL => ?_⟩
    lcg_off
    have nFL : F ≠ L := by intro e; subst e; rw [upd_same] at hL; cases hL
    have nL : H L = none := (same_new hF).free hL
    have nbF : b ≠ F := ne_of_none hb hF
    have nbL : b ≠ L := ne_of_none hb nL
    refine ⟨b, d, m, 11, rfl, by array_mem_dec, by decide, by decide, fun n d1 m1 n0 n1 => ?_⟩
    lcg_off
    refine fk_range (fun i σ H2 => ∃ (ws ls : List (List Nat)) (d m : Int) (u : Option V), (∀ w ∈ ws, w ∈ LICS) ∧ (∀ w ∈ ls, w ∈ LICS) ∧ ws.length ≤ 2 * i ∧ ls.length = 10 - i ∧ Keep b H H2 ∧ H2 b = some (.lst [.int d, .int m]) ∧ H2 F = some (.lst (ws.map wd)) ∧ H2 L = some (.lst (ls.map wd)) ∧ σ = [some (.ref b), some (.ref F), some (.ref L), u])
      ⟨[], LICS, d1, m1, none, by simp, fun w h => h, by simp, rfl, keep_bag (keep_own (keep_own keep_refl hF) nL), upd_same, by rw [upd_ne nbF.symm, upd_ne nFL]; exact upd_same, by rw [upd_ne nbL.symm]; exact upd_same, rfl⟩ ?_ ?_
    · rintro i σ H2 hi ⟨ws, ls, d2, m2, u, hw, hls, hwl, hll, k2, hb2, hF2, hL2, rfl⟩
      lcg_off
      refine ⟨b, d2, m2, _, rfl, hb2, by rw [List.length_map]; omega, by rw [List.length_map]; omega, fun r d3 m3 r0 r1 => ?_⟩
      rw [List.length_map] at r1
      obtain ⟨j, rfl⟩ := Int.eq_ofNat_of_zero_le r0
      have hj : j < ls.length := by omega
      have hL3 : upd H2 b (.lst [.int d3, .int m3]) L = some (.lst (ls.map wd)) := upd_old nbL.symm hL2
      lcg_off
      refine rd_popAt hL3 (y := wd ls[j]) (by rw [List.getElem?_map, List.getElem?_eq_getElem hj]; rfl) (by rw [List.length_map]; omega) ?_
      rw [map_erase]
      lcg_off
      refine rd_append (upd_old nFL (upd_old nbF.symm hF2)) (sz_lt (by rw [List.length_map]; omega)) ?_
      have e1 : ws.map wd ++ [wd ls[j]] = (ws ++ [ls[j]]).map wd := by simp
      rw [e1]
      have hw1 : ∀ w ∈ ws ++ [ls[j]], w ∈ LICS := fun w h => by
        rcases List.mem_append.mp h with h | h
        · exact hw w h
        · rw [List.mem_singleton.mp h]
          exact hls _ (List.getElem_mem hj)
      have hls1 : ∀ w ∈ ls.eraseIdx j, w ∈ LICS := fun w h => hls w (List.mem_of_mem_eraseIdx h)
      have hwl1 : (ws ++ [ls[j]]).length ≤ 2 * i + 1 := by simp; omega
      have hpos : 0 < (ws ++ [ls[j]]).length := by simp
      have hll1 : (ls.eraseIdx j).length = 10 - (i + 1) := by rw [List.length_eraseIdx, if_pos hj]; omega
      generalize ws ++ [ls[j]] = ws1 at hw1 hwl1 hpos
      generalize ls.eraseIdx j = ls1 at hls1 hll1
      have k3 : Keep b H (upd (upd (upd H2 b (.lst [.int d3, .int m3])) L (.lst (ls1.map wd))) F (.lst (ws1.map wd))) := keep_own (keep_own (keep_bag k2) nL) hF
      have hb3 : (upd (upd (upd H2 b (.lst [.int d3, .int m3])) L (.lst (ls1.map wd))) F (.lst (ws1.map wd))) b = some (.lst [.int d3, .int m3]) := upd_old nbF (upd_old nbL upd_same)
      have hF3 : (upd (upd (upd H2 b (.lst [.int d3, .int m3])) L (.lst (ls1.map wd))) F (.lst (ws1.map wd))) F = some (.lst (ws1.map wd)) := upd_same
      have hL3 : (upd (upd (upd H2 b (.lst [.int d3, .int m3])) L (.lst (ls1.map wd))) F (.lst (ws1.map wd))) L = some (.lst (ls1.map wd)) := upd_old nFL.symm upd_same
      generalize (upd (upd (upd H2 b (.lst [.int d3, .int m3])) L (.lst (ls1.map wd))) F (.lst (ws1.map wd))) = H3 at k3 hb3 hF3 hL3
      lcg_off
      refine ⟨b, d3, m3, 4, rfl, hb3, by decide, by decide, fun r d4 m4 r0 r1 => ?_⟩
      lcg_off
      refine ifD (fun c => ?_) (fun c => ?_)
      · lcg_off
        refine ⟨b, F, d4, m4, ws1.map wd, rfl, upd_same, sqL_of (upd_old nbF.symm hF3), nbF.symm, by rw [List.length_map]; exact hpos, by rw [List.length_map]; omega, fun x d5 m5 hx => ?_⟩
        obtain ⟨y, hy, rfl⟩ := List.mem_map.mp hx
        rw [upd_upd]
        lcg_off
        refine rd_append (upd_old nbF.symm hF3) (sz_lt (by rw [List.length_map]; omega)) ?_
        have e2 : ws1.map wd ++ [wd y] = (ws1 ++ [y]).map wd := by simp
        rw [e2]
        refine ⟨ws1 ++ [y], ls1, d5, m5, _, ?_, hls1, by simp; omega, hll1, keep_own (keep_bag k3) hF, upd_old nbF upd_same, upd_same, upd_old nFL.symm (upd_old nbL.symm hL3), rfl⟩
        intro w h
        rcases List.mem_append.mp h with h | h
        · exact hw1 w h
        · rw [List.mem_singleton.mp h]
          exact hw1 _ hy
      · lcg_off
        exact ⟨ws1, ls1, d4, m4, _, hw1, hls1, by omega, hll1, keep_bag k3, upd_same, upd_old nbF.symm hF3, upd_old nbL.symm hL3, rfl⟩
    · rintro σ H2 ⟨ws, ls, d2, m2, u, hw, hls, hwl, hll, k2, hb2, hF2, hL2, rfl⟩
      lcg_off
      exact k F ws H2 d2 m2 hw (by omega) hF k2 hb2 hF2
end
end K87

namespace K87
open PySem L2 Hk
local macro_rules | `(tactic| array_mem_dec) => `(tactic| with_reducible first
  | assumption | exact upd_same
  | (apply upd_new; assumption; array_mem_dec)
  | (apply upd_old; tlg_ne; array_mem_dec)
  | (apply same_at; assumption; array_mem_dec))
local macro_rules | `(tactic| tlg_ne) => `(tactic| with_reducible first
  | assumption | (apply Ne.symm; assumption)
  | (apply ne_new; assumption; array_mem_dec) | (apply ne_new'; assumption; array_mem_dec)
  | (apply ne_of; assumption; assumption; (with_unfolding_all (intro z; cases z; done))))
local macro_rules | `(tactic| decreasing_trivial_pre_omega) => `(tactic| with_reducible first
  | assumption | (apply sqL_of; array_mem_dec) | (apply sqT_of; array_mem_dec)
  | (apply Same.seq; assumption; decreasing_trivial_pre_omega) | (apply sqT_same; assumption; decreasing_trivial_pre_omega)
  | (apply sqL_new; assumption; decreasing_trivial_pre_omega) | (apply sqL_upd; tlg_ne; decreasing_trivial_pre_omega))
local macro_rules | `(tactic| kpt_turns) => `(tactic| with_reducible first
  | assumption | exact Same.refl _ | (apply same_ext; kpt_turns; assumption) | (apply same_mut; kpt_turns; keq_hits) | (apply same_step; assumption; kpt_turns))
local macro_rules | `(tactic| keq_hits) => `(tactic| with_reducible first | assumption | (apply same_none; assumption; keq_hits))
local macro_rules | `(tactic| sizeOf_list_dec) => `(tactic| first | (with_reducible assumption) | (with_reducible_and_instances omega) | (with_unfolding_all decide))
local macro_rules | `(tactic| array_get_dec) => `(tactic| first | (with_reducible assumption) | (apply sz_of; (with_unfolding_all simp); done) | (apply sz_of; omega) | (apply sz_lt; (with_unfolding_all simp); done) | (apply sz_lt; omega))
local macro_rules | `(tactic| keq_rows) => `(tactic| with_reducible first
  | apply rd_asgN | apply rd_seq | apply rd_parA | apply rd_par3A | apply rd_par2 | apply rd_par3 | apply rd_m1 | apply rd_isStr | apply rd_cval | apply rd_asg | apply rd_gname | apply rd_op | (show tVar _ _ _ _; refine rd_var (by with_unfolding_all rfl) ?_) | apply rd_c | apply rd_I0
  | apply rd_cons | apply rd_nil | apply rd_cb | apply rd_test | apply rd_bl | apply rd_fld | apply rd_drop | apply rd_ret | apply rd_retN | apply rd_next
  | apply rd_ifS | apply rd_un | apply rd_B | apply rd_and | apply rd_or | apply rd_not | apply rd_andV | apply rd_orV | apply rd_notV | apply rd_if
  | apply rd_int | apply rd_abs | apply rd_max | apply rd_min | apply rd_strS | apply rd_U
  | apply rd_eqTx | apply rd_neTx | apply rd_inTx | apply rd_notInTx | apply rd_fmt | (show FmtK (.str (tx _)) _ _; refine rd_fmtT (by omega) ?_) | apply rd_jsC | apply rd_jsN | (show JsK _ (tx _) _ (.str (tx _)) _ _; refine rd_JsK (by first | omega | (simp; done) | (simp; omega)) ?_) | (show rAddStr (.str (tx _)) (.str (tx _)) _ _; refine rd_addT (by first | omega | (simp; done) | (simp; omega)) ?_) | (show rLenStr [.str (tx _)] _ _; refine rd_lenTx (by omega) ?_)
  | (show rEq _ _ _ _; refine rd_eq (by with_unfolding_all rfl) ?_) | (show rNe _ _ _ _; refine rd_ne (by with_unfolding_all rfl) ?_) | apply rd_isNone | apply rd_notNone
  | (show rIxL _ _ _ _ _; refine rd_ixL (by decreasing_trivial_pre_omega) (by with_unfolding_all rfl) ?_) | (show rIxT _ _ _ _ _; refine rd_ixT (by decreasing_trivial_pre_omega) (by with_unfolding_all rfl) ?_)
  | (show rLenSeq _ _ _ _; refine rd_lenL (by decreasing_trivial_pre_omega) ?_) | (show rLenSeq _ _ _ _; refine rd_lenT (by decreasing_trivial_pre_omega) ?_)
  | (show rI _ _ _ _ _ _; refine rd_mod (by sizeOf_list_dec) ?_) | (show rI _ _ _ _ _ _; refine rd_div (by sizeOf_list_dec) (by sizeOf_list_dec) ?_) | (show rI _ _ _ _ _ _; refine rd_mulR (by sizeOf_list_dec) (by sizeOf_list_dec) ?_) | (show rI _ _ _ _ _ _; refine rd_mulL (by sizeOf_list_dec) (by sizeOf_list_dec) ?_) | (show rI _ _ _ _ _ _; refine rd_pow (by sizeOf_list_dec) ?_)
  | (show rSetL _ _ _ _ _; refine rd_setL (by array_mem_dec) (by with_unfolding_all rfl) ?_)
  | (show rSlL _ _ _ _ _ _; refine rd_slL (by decreasing_trivial_pre_omega) ?_) | apply rd_inSign | apply rd_notInSign | apply rd_tup | apply rd_lst | apply rd_sl | apply rd_noPart | apply rd_part | apply rd_isInt
  | apply rd_gsub | apply rd_gcons | apply rd_gnil | apply rd_call | apply rd_meth | apply rd_make | apply rd_smeth | apply rd_isC | apply rd_smethK | apply rd_cmeth | apply rd_cmethK
  | apply rd_bm | apply rd_bm0 | (show BmK _ _ _ _ _ _ _ _; refine rd_bmL (by array_mem_dec) ?_) | (show Bm0K _ _ _ _ _ _; refine rd_bm0L (by array_mem_dec) ?_) | apply rd_sfld | apply rd_aug | apply rd_rAdd | apply rd_brk | apply rd_cont
  | apply rd_for | apply rd_iList | (show IList _ _ _ _; refine rd_IList (by decreasing_trivial_pre_omega) ?_) | apply rd_iTup | (show ITup _ _ _ _; refine rd_ITup (by decreasing_trivial_pre_omega) ?_) | apply rd_iEnum | (show IEnum _ _ _ _; refine rd_IEnum (by decreasing_trivial_pre_omega) ?_) | apply rd_iRng1 | (show IRng1 _ _ _; refine rd_IRng1 (by sizeOf_list_dec) (by sizeOf_list_dec) ?_)
  | (show List.length _ ≤ sizeLine ∧ _; refine rd_new (by array_get_dec) ?_) | (show rLenStr _ _ _; refine rd_lenS (by array_get_dec) ?_) | (show rAddStr _ _ _ _; refine rd_addS (by array_get_dec) ?_) | (show rSlS _ _ _ _ _; refine rd_slS (by array_get_dec) ?_) | apply rd_lc | apply rd_yes | (show gTup _ _ _ _ _ _ _; refine rd_gtup (by decreasing_trivial_pre_omega) (by with_unfolding_all rfl) ?_) | (show tMakeL _ _ _ _ _ _ _ _; refine rd_makeL (by with_unfolding_all rfl) ?_))
local macro_rules | `(tactic| kas_types) => `(tactic| with_reducible first | apply rd_isi_int_int | apply rd_isi_int_bool | apply rd_isi_int_str | apply rd_isi_int_list | apply rd_isi_int_tuple | apply rd_isi_bool_int | apply rd_isi_bool_bool | apply rd_isi_bool_str | apply rd_isi_bool_list | apply rd_isi_bool_tuple | apply rd_isi_str_int | apply rd_isi_str_bool | apply rd_isi_str_str | apply rd_isi_str_list | apply rd_isi_str_tuple | (show rIsi _ _ _ _; refine rd_isi_list_int (by array_mem_dec) ?_) | (show rIsi _ _ _ _; refine rd_isi_list_bool (by array_mem_dec) ?_) | (show rIsi _ _ _ _; refine rd_isi_list_str (by array_mem_dec) ?_) | (show rIsi _ _ _ _; refine rd_isi_list_list (by array_mem_dec) ?_) | (show rIsi _ _ _ _; refine rd_isi_list_tuple (by array_mem_dec) ?_) | (show rIsi _ _ _ _; refine rd_isi_tuple_int (by array_mem_dec) ?_) | (show rIsi _ _ _ _; refine rd_isi_tuple_bool (by array_mem_dec) ?_) | (show rIsi _ _ _ _; refine rd_isi_tuple_str (by array_mem_dec) ?_) | (show rIsi _ _ _ _; refine rd_isi_tuple_list (by array_mem_dec) ?_) | (show rIsi _ _ _ _; refine rd_isi_tuple_tuple (by array_mem_dec) ?_) | apply rd_isi_NoneType_int | apply rd_isi_NoneType_bool | apply rd_isi_NoneType_str | apply rd_isi_NoneType_list | apply rd_isi_NoneType_tuple)
local macro_rules | `(tactic| lcg_src) => `(tactic| repeat keq_rows)

/-! ### a family's data -/
def fF (q : Addr) : List (Str × V) := [("words", .ref q)]
theorem fF_words {q : Addr} : (fF q).lookup ("words" : Str) = some (.ref q) := by unfold fF; rw [List.lookup_cons_self]
theorem fF_no {q : Addr} {m : Str} (h1 : (m == ("words" : Str)) = false) : (fF q).lookup m = none := by
  unfold fF
  rw [List.lookup_cons, h1]
  rfl
theorem fF_put {q : Addr} : putF "words" (.ref q) [] = fF q := rfl
structure FamAt (a : Ad) (H : Hp) (p : Addr) (ws : List (List Nat)) : Prop where
  ex : ∃ dx q, H p = some (.ins a.C_Family dx (fF q)) ∧ H q = some (.tup (ws.map wd))
theorem FamAt.mono {a : Ad} {H H' : Hp} {p : Addr} {ws : List (List Nat)} (e : Same H H') (h : FamAt a H p ws) : FamAt a H' p ws :=
  let ⟨dx, q, h1, h2⟩ := h.ex
  ⟨dx, q, e _ _ h1, e _ _ h2⟩
theorem FamAt.keep {a : Ad} {H H' : Hp} {b p : Addr} {xs : List V} {ws : List (List Nat)} (hb : H b = some (.lst xs)) (e : Keep b H H') (h : FamAt a H p ws) : FamAt a H' p ws :=
  let ⟨dx, q, h1, h2⟩ := h.ex
  ⟨dx, q, e _ _ (ne_of h1 hb (by intro z; cases z)) h1, e _ _ (ne_of h2 hb (by intro z; cases z)) h2⟩
section
variable {P : Program} {w : World} {K : PySem.W.Frag} {mg : Str → Option Value} {base : Heap} {a : Ad} {H : Hp} {Q : VK} {p dx q : Addr}
theorem fldF_words (T : Txt K mg a) (e : H p = some (.ins a.C_Family dx (fF q))) (k : Q (.ref q) H) : FldK K "words" (.ref p) H Q := rd_fldK e T.cl_Family T.no_Family_words fF_words k
theorem cvF (T : Txt K mg a) (k : Q (.ref a.a_Family_LICENCES) H) : CValK K "LICENCES" (.ref a.C_Family) H Q := rd_cvalK T.cr_Family T.cv_Family_LICENCES k
theorem licsT (T : Txt K mg a) (H : Hp) : SqT K H a.a_Family_LICENCES (LICS.map wd) := by
  rw [← lics_eq]
  exact T.q_Family_LICENCES H
end
local macro_rules | `(tactic| lcg_sub) => `(tactic| with_reducible first | refine fldF_words (by assumption) (by array_mem_dec) ?_ | refine cvF (by assumption) ?_)
local macro_rules | `(tactic| lcg_off) => `(tactic| repeat (first | keq_rows | lcg_sub))
section
variable {P : Program} {w : World} {K : PySem.W.Frag} {mg : Str → Option Value} {base : Heap} {a : Ad}
def sp_Family_init (a : Ad) (K : PySem.W.Frag) : Sp := fun vs H Q _ => ∃ (p dx q0 : Addr) (ws : List (List Nat)), vs = [.ref p, .ref q0] ∧ H p = some (.ins a.C_Family dx []) ∧ H q0 = some (.lst (ws.map wd)) ∧ (∀ w ∈ ws, w ∈ LICS) ∧
  ∀ (l : Addr) (H' : Hp), H l = none → Keep p H H' → H' p = some (.ins a.C_Family dx (fF l)) → H' l = some (.tup ((fam ws).map wd)) → Q .non H'
theorem ok_Family_init (T : Txt K mg a) : FnOk P w K mg base CX0 1 a.f_Family_init a.fd_Family_init ["self", "words"]  (sp_Family_init a K) := by
  refine T.F_Family_init.ok sc_Family_init (fun vs H Q E h => ?_) (fun cdv A outer s H vs Q E hr h => ?_)
  · obtain ⟨_, _, _, _, rfl, _⟩ := h
    rfl
  · obtain ⟨p, dx, q0, ws, rfl, hp, hq, hw, k⟩ := h
    refine ⟨_, ((pss_cons (ps_for PassesOwn.never rfl (pi_list (pv 1)) (pg_name (i := 2) sc_Family_init.nd rfl (Or.inl rfl))
 (pss_one (ps_if (pt_cmpR op_notIn_seq (pv 2) (ClX.pe_cval (pe_glob (v := .ref _) rfl T.g_Family rfl)) (by rfl))
 (pss_one ps_never)
 pss_nil)))
 (pss_one (ps_fld (pv 0) (pe_callTy call_tupOf (by rfl) T.n_tuple (by decide +kernel) (pa_cons (pe_lc (own := [("licence", 3)]) (g := gName 3) rfl sc_Family_init.nd (pi_tup (ClX.pe_cval (pe_glob (v := .ref _) rfl T.g_Family rfl))) (blkOk_by (own := [("licence", 3)]) (N := ["self", "words", "word", "licence"]) (sc := defScope s_Family_init) (by decide +kernel)) (fun _ _ _ _ _ => (pg_name (i := 3) sc_Family_init.nd rfl (Or.inl rfl))) (fun _ _ _ _ _ => (pts_one (pt_cmpR (op_inSeqK (K := K)) (pv 3) (pv 1) (by rfl)))) (fun _ _ _ _ _ => (pv 3))) pa_nil)) rfl)))), ?_⟩
    try simp only [cxK]
    have npq : q0 ≠ p := ne_of hq hp (by intro z; cases z)
    lcg_off
    refine fk_list (xs := ws.map wd) (fun i σ H2 => H2 = H ∧ ∃ u, σ = [some (.ref p), some (.ref q0), u, none]) ⟨rfl, _, rfl⟩ (fun i σ H2 _ ⟨e, _⟩ => by rw [e]; exact sqL_of hq) ?_ ?_
    · rintro i x σ H2 hx ⟨rfl, u, rfl⟩
      obtain ⟨y, hy, rfl⟩ := List.mem_map.mp (List.mem_of_getElem? hx)
      unfold wd
      lcg_off
      refine rd_notInWT (licsT T _) ?_
      lcg_off
      refine ifN (fun c => absurd (hw y hy) c) (fun _ => ?_)
      lcg_off
      exact ⟨rfl, _, rfl⟩
    · rintro σ H2 ⟨rfl, u, rfl⟩
      lcg_off
      refine rd_ITup (licsT T _) ?_
      refine lcT (rows := LICS) (by simp) (by decide) (licsT T _) (fun w => decide (w ∈ ws)) wd (fun i x r H1 hx hr1 s1 Done Kept hd hk => ?_) fun D H' hD s1 h1 => ?_
      · rw [List.getElem?_map, hr1] at hx
        obtain rfl : wd r = x := Option.some.inj hx
        unfold wd
        lcg_off
        refine ⟨rfl, ?_⟩
        lcg_off
        refine rd_inWL (s1.seq (sqL_of hq)) ?_
        lcg_off
        refine ifB (fun c => ?_) (fun c => ?_)
        · lcg_off
          exact hk H1 (Same.refl _) c
        · exact hd H1 (Same.refl _) c
      · lcg_off
        refine rd_tupL (sqL_of h1) fun l hl => ?_
        have nl : H2 l = none := s1.free hl
        have npl : p ≠ l := ne_of_none hp nl
        lcg_off
        refine rd_sfldK (upd_old npl (s1 _ _ hp)) T.cl_Family T.no_Family_words (by show 0 < 1000; decide) ?_
        rw [fF_put]
        refine k l _ nl (fun b o hb e => ?_) upd_same ?_
        · exact upd_old hb (upd_new hl (s1 _ _ e))
        · rw [upd_ne npl.symm]
          exact upd_same
/-- a family is made of a list -/
theorem make_fam {a : Ad} {K : PySem.W.Frag} {E : XK} {H : Hp} {Q : Addr → Hp → Prop} {q0 : Addr} {ws : List (List Nat)} (hq : H q0 = some (.lst (ws.map wd))) (hw : ∀ w ∈ ws, w ∈ LICS)
    (k : ∀ p H', Same H H' → H p = none → FamAt a H' p (fam ws) → Q p H') :
    ∀ x dx, H x = none → H dx = none → dx ≠ x → sp_Family_init a K [.ref x, .ref q0] (upd (upd H dx (.own x)) x (.ins a.C_Family dx [])) (fun v H2 => v = .non ∧ Q x H2) E := by
  intro x dx nx ndx ne
  have h1 : (upd H dx (.own x)) x = none := upd_oldN ne.symm nx
  refine ⟨x, dx, q0, ws, rfl, upd_same, upd_new h1 (upd_new ndx hq), hw, fun l H' hl keep hx hl' => ⟨rfl, ?_⟩⟩
  have s1 : Same H H' := fun b o e => keep b o (ne_of_none e nx) (upd_new h1 (upd_new ndx e))
  exact k x H' s1 nx ⟨dx, l, hx, hl'⟩
def sp_bin (a : Ad) (g : List (List Nat) → List (List Nat) → List (List Nat)) : Sp := fun vs H Q _ => ∃ (p p2 : Addr) (ws vs' : List (List Nat)), vs = [.ref p, .ref p2] ∧ FamAt a H p ws ∧ FamAt a H p2 vs' ∧ (∀ w ∈ ws, w ∈ LICS) ∧ (∀ w ∈ vs', w ∈ LICS) ∧ ws.length ≤ 10 ∧ vs'.length ≤ 10 ∧
  ∀ r H', Same H H' → H r = none → FamAt a H' r (fam (g ws vs')) → Q (.ref r) H'
def gAnd (ws vs : List (List Nat)) : List (List Nat) := ws.filter fun w => decide (w ∈ vs)
def gSub (ws vs : List (List Nat)) : List (List Nat) := ws.filter fun w => !decide (w ∈ vs)
theorem ok_Family_and (T : Txt K mg a) : FnOk P w K mg base CX0 3 a.f_Family_and a.fd_Family_and ["self", "other"]  (sp_bin a gAnd) := by
  refine T.F_Family_and.ok sc_Family_and (fun vs H Q E h => ?_) (fun cdv A outer s H vs Q E hr h => ?_)
  · obtain ⟨_, _, _, _, rfl, _⟩ := h
    rfl
  · obtain ⟨p, p2, ws, vs', rfl, h1, h2, hw, hv, hwl, hvl, k⟩ := h
    obtain ⟨dx, q, hp, hq⟩ := h1.ex
    obtain ⟨dx2, q2, hp2, hq2⟩ := h2.ex
    refine ⟨_, ((pss_one (ps_ret (pe_make T.mk_Family (ok_Family_init T) hr rfl T.g_Family T.b_Family_init .nil pass0 (pa_cons (pe_lc (own := [("word", 2)]) (g := gName 2) rfl sc_Family_and.nd (pi_tup (pe_fld (pv 0) rfl)) (blkOk_by (own := [("word", 2)]) (N := ["self", "other", "word"]) (sc := defScope s_Family_and) (by decide +kernel)) (fun _ _ _ _ _ => (pg_name (i := 2) sc_Family_and.nd rfl (Or.inl rfl))) (fun _ _ _ _ _ => (pts_one (pt_cmpR (op_inSeqK (K := K)) (pv 2) (pe_fldK (K := K) (pv 1) rfl) (by rfl)))) (fun _ _ _ _ _ => (pv 2))) pa_nil))))), ?_⟩
    try simp only [cxK]
    lcg_off
    refine lcT (rows := ws) (by simp) (by rw [List.length_map]; omega) (sqT_of hq) (fun w => decide (w ∈ vs')) wd (fun i x r H1 hx hr1 s1 Done Kept hd hk => ?_) fun D H' hD s1 h1 => ?_
    · rw [List.getElem?_map, hr1] at hx
      obtain rfl : wd r = x := Option.some.inj hx
      unfold wd
      lcg_off
      refine ⟨rfl, ?_⟩
      lcg_off
      refine rd_inWT (sqT_of (s1 _ _ hq2)) ?_
      lcg_off
      refine ifB (fun c => ?_) (fun c => ?_)
      · lcg_off
        exact hk H1 (Same.refl _) c
      · exact hd H1 (Same.refl _) c
    · lcg_off
      exact make_fam h1 (fun w h => hw w (List.mem_filter.mp h).1) fun r H2 s2 hr2 hF => k r H2 (s1.trans s2) (s1.free hr2) hF
theorem ok_Family_sub (T : Txt K mg a) : FnOk P w K mg base CX0 3 a.f_Family_sub a.fd_Family_sub ["self", "other"]  (sp_bin a gSub) := by
  refine T.F_Family_sub.ok sc_Family_sub (fun vs H Q E h => ?_) (fun cdv A outer s H vs Q E hr h => ?_)
  · obtain ⟨_, _, _, _, rfl, _⟩ := h
    rfl
  · obtain ⟨p, p2, ws, vs', rfl, h1, h2, hw, hv, hwl, hvl, k⟩ := h
    obtain ⟨dx, q, hp, hq⟩ := h1.ex
    obtain ⟨dx2, q2, hp2, hq2⟩ := h2.ex
    refine ⟨_, ((pss_one (ps_ret (pe_make T.mk_Family (ok_Family_init T) hr rfl T.g_Family T.b_Family_init .nil pass0 (pa_cons (pe_lc (own := [("word", 2)]) (g := gName 2) rfl sc_Family_sub.nd (pi_tup (pe_fld (pv 0) rfl)) (blkOk_by (own := [("word", 2)]) (N := ["self", "other", "word"]) (sc := defScope s_Family_sub) (by decide +kernel)) (fun _ _ _ _ _ => (pg_name (i := 2) sc_Family_sub.nd rfl (Or.inl rfl))) (fun _ _ _ _ _ => (pts_one (pt_cmpR (op_notInSeqK (K := K)) (pv 2) (pe_fldK (K := K) (pv 1) rfl) (by rfl)))) (fun _ _ _ _ _ => (pv 2))) pa_nil))))), ?_⟩
    try simp only [cxK]
    lcg_off
    refine lcT (rows := ws) (by simp) (by rw [List.length_map]; omega) (sqT_of hq) (fun w => !decide (w ∈ vs')) wd (fun i x r H1 hx hr1 s1 Done Kept hd hk => ?_) fun D H' hD s1 h1 => ?_
    · rw [List.getElem?_map, hr1] at hx
      obtain rfl : wd r = x := Option.some.inj hx
      unfold wd
      lcg_off
      refine ⟨rfl, ?_⟩
      lcg_off
      refine rd_notInWT (sqT_of (s1 _ _ hq2)) ?_
      lcg_off
      refine ifB (fun c => ?_) (fun c => ?_)
      · lcg_off
        exact hk H1 (Same.refl _) c
      · exact hd H1 (Same.refl _) c
    · lcg_off
      exact make_fam h1 (fun w h => hw w (List.mem_filter.mp h).1) fun r H2 s2 hr2 hF => k r H2 (s1.trans s2) (s1.free hr2) hF
theorem ok_Family_or (T : Txt K mg a) : FnOk P w K mg base CX0 3 a.f_Family_or a.fd_Family_or ["self", "other"]  (sp_bin a (fun x y => x ++ y)) := by
  refine T.F_Family_or.ok sc_Family_or (fun vs H Q E h => ?_) (fun cdv A outer s H vs Q E hr h => ?_)
  · obtain ⟨_, _, _, _, rfl, _⟩ := h
    rfl
  · obtain ⟨p, p2, ws, vs', rfl, h1, h2, hw, hv, hwl, hvl, k⟩ := h
    obtain ⟨dx, q, hp, hq⟩ := h1.ex
    obtain ⟨dx2, q2, hp2, hq2⟩ := h2.ex
    refine ⟨_, ((pss_one (ps_ret (pe_make T.mk_Family (ok_Family_init T) hr rfl T.g_Family T.b_Family_init .nil pass0 (pa_cons (pe_op op_cat (pe_callTy call_listOf (by rfl) T.n_list (by decide +kernel) (pa_cons (pe_fld (pv 0) rfl) pa_nil)) (pe_callTy call_listOf (by rfl) T.n_list (by decide +kernel) (pa_cons (pe_fld (pv 1) rfl) pa_nil))) pa_nil))))), ?_⟩
    try simp only [cxK]
    lcg_off
    refine rd_listT (sqT_of hq) fun l hl => ?_
    lcg_off
    refine rd_listT (sqT_of (upd_new hl hq2)) fun l2 hl2 => ?_
    refine rd_cat (upd_new hl2 upd_same) upd_same (by simp; omega) fun l3 hl3 => ?_
    lcg_off
    have e : ws.map wd ++ vs'.map wd = (ws ++ vs').map wd := by simp
    rw [e]
    have s1 := ((same_new (u := .lst (ws.map wd)) hl).trans (same_new (u := .lst (vs'.map wd)) hl2)).trans (same_new (u := .lst ((ws ++ vs').map wd)) hl3)
    exact make_fam upd_same (fun w h => by
      rcases List.mem_append.mp h with h | h
      · exact hw w h
      · exact hv w h) fun r H2 s2 hr2 hF => k r H2 (s1.trans s2) (s1.free hr2) hF
def within (ws vs : List (List Nat)) : Bool := (ws.map fun w => decide (w ∈ vs)).all id
def sp_Family_is_within (a : Ad) : Sp := fun vs H Q _ => ∃ (p p2 : Addr) (ws vs' : List (List Nat)), vs = [.ref p, .ref p2] ∧ FamAt a H p ws ∧ FamAt a H p2 vs' ∧ ws.length ≤ 10 ∧
  ∀ H', Same H H' → Q (.bl (within ws vs')) H'
theorem ok_Family_is_within (T : Txt K mg a) : FnOk P w K mg base CX0 1 a.f_Family_is_within a.fd_Family_is_within ["self", "other"]  (sp_Family_is_within a) := by
  refine T.F_Family_is_within.ok sc_Family_is_within (fun vs H Q E h => ?_) (fun cdv A outer s H vs Q E hr h => ?_)
  · obtain ⟨_, _, _, _, rfl, _⟩ := h
    rfl
  · obtain ⟨p, p2, ws, vs', rfl, h1, h2, hwl, k⟩ := h
    obtain ⟨dx, q, hp, hq⟩ := h1.ex
    obtain ⟨dx2, q2, hp2, hq2⟩ := h2.ex
    refine ⟨_, ((pss_one (ps_ret (pe_callB (cr_all rfl) (by rfl) T.n_all (by decide +kernel) (pa_cons (pe_lc (own := [("word", 2)]) (g := gName 2) (tt := tYes) rfl sc_Family_is_within.nd (pi_tup (pe_fld (pv 0) rfl)) (blkOk_by (own := [("word", 2)]) (N := ["self", "other", "word"]) (sc := defScope s_Family_is_within) (by decide +kernel)) (fun _ _ _ _ _ => (pg_name (i := 2) sc_Family_is_within.nd rfl (Or.inl rfl))) (fun _ _ _ _ _ => pts_nil) (fun _ _ _ _ _ => (pe_cmpR (op_inSeqK (K := K)) (pv 2) (pe_fldK (K := K) (pv 1) rfl) (by rfl)))) pa_nil))))), ?_⟩
    try simp only [cxK]
    lcg_off
    refine lcT (rows := ws) (by simp) (by rw [List.length_map]; omega) (sqT_of hq) (fun w => true) (fun w => .bl (decide (w ∈ vs'))) (fun i x r H1 hx hr1 s1 Done Kept hd hk => ?_) fun D H' hD s1 h1 => ?_
    · rw [List.getElem?_map, hr1] at hx
      obtain rfl : wd r = x := Option.some.inj hx
      unfold wd
      lcg_off
      refine ⟨rfl, ?_⟩
      lcg_off
      refine iteT ?_
      lcg_off
      refine rd_inWT (sqT_of (s1 _ _ hq2)) ?_
      exact hk H1 (Same.refl _) rfl
    · lcg_off
      have e : (ws.filter fun _ => true).map (fun w => V.bl (decide (w ∈ vs'))) = (ws.map fun w => decide (w ∈ vs')).map V.bl := by
        rw [List.filter_eq_self.mpr (fun _ _ => rfl), List.map_map]
        rfl
      rw [e] at h1
      refine rd_all (sqL_of h1) ?_
      exact k H' s1
def sp_Family_len (a : Ad) : Sp := fun vs H Q _ => ∃ (p : Addr) (ws : List (List Nat)), vs = [.ref p] ∧ FamAt a H p ws ∧ Q (.int (ws.length : Nat)) H
theorem ok_Family_len (T : Txt K mg a) : FnOk P w K mg base CX0 1 a.f_Family_len a.fd_Family_len ["self"]  (sp_Family_len a) := by
  refine T.F_Family_len.ok sc_Family_len (fun vs H Q E h => ?_) (fun cdv A outer s H vs Q E hr h => ?_)
  · obtain ⟨_, _, rfl, _⟩ := h
    rfl
  · obtain ⟨p, ws, rfl, h1, k⟩ := h
    obtain ⟨dx, q, hp, hq⟩ := h1.ex
    refine ⟨_, ((pss_one (ps_ret (pe_callB call_lenSeq (by rfl) T.n_len (by decide +kernel) (pa_cons (pe_fld (pv 0) rfl) pa_nil))))), ?_⟩
    try simp only [cxK]
    lcg_off
    rw [List.length_map]
    exact k
/-- == : another family, or something that is none -/
def NotFam (K : PySem.W.Frag) (a : Ad) (H : Hp) (y : V) : Prop := ∃ t, TyOf K H y (.type t) ∧ PySem.W.subIn K (.type t) (.ref a.C_Family) = some false
def sp_Family_eq (a : Ad) (K : PySem.W.Frag) : Sp := fun vs H Q _ => ∃ (p : Addr) (y : V) (ws : List (List Nat)), vs = [.ref p, y] ∧ FamAt a H p ws ∧ (∀ w ∈ ws, w ∈ LICS) ∧
  ((∃ p2 vs', y = .ref p2 ∧ FamAt a H p2 vs' ∧ (∀ w ∈ vs', w ∈ LICS) ∧ Q (.bl (decide (ws = vs'))) H) ∨ (NotFam K a H y ∧ Q (.bl false) H))
theorem ok_Family_eq (T : Txt K mg a) : FnOk P w K mg base CX0 1 a.f_Family_eq a.fd_Family_eq ["self", "other"]  (sp_Family_eq a K) := by
  refine T.F_Family_eq.ok sc_Family_eq (fun vs H Q E h => ?_) (fun cdv A outer s H vs Q E hr h => ?_)
  · obtain ⟨_, _, _, rfl, _⟩ := h
    rfl
  · obtain ⟨p, y, ws, rfl, h1, hw, k⟩ := h
    obtain ⟨dx, q, hp, hq⟩ := h1.ex
    refine ⟨_, ((pss_one (ps_ret (pe_and (pe_callB call_isi (by rfl) T.n_isinstance (by decide +kernel) (pa_cons (pv 1) (pa_cons (pe_glob (v := .ref _) rfl T.g_Family rfl) pa_nil))) (pe_one (pe_cmpR (op_eqD hr.units) (pe_fld (pv 0) rfl) (pe_fld (pv 1) rfl) (nomark _))))))), ?_⟩
    try simp only [cxK]
    rcases k with ⟨p2, vs', rfl, h2, hv, k⟩ | ⟨⟨t, ht, hs⟩, k⟩
    · obtain ⟨dx2, q2, hp2, hq2⟩ := h2.ex
      lcg_off
      refine rd_isi_own T.ty_Family hp2 ?_
      lcg_off
      refine iteT ?_
      lcg_off
      refine rd_eqWT (sqT_of hq) (sqT_of hq2) (fun w h => lics_okT w (hw w h)) (fun w h => lics_okT w (hv w h)) ?_
      exact k
    · lcg_off
      refine rd_isi (.own _) (.base ht) (T.ty_Family.kit hs rfl) ?_
      lcg_off
      refine iteF ?_
      exact k
def sp_Family_repr (a : Ad) : Sp := fun vs H Q _ => ∃ (p : Addr) (ws : List (List Nat)), vs = [.ref p] ∧ FamAt a H p ws ∧ (∀ w ∈ ws, w ∈ LICS) ∧ ws.length ≤ 10 ∧ Q (.str (tx ([70, 97, 109, 105, 108, 121, 40] ++ TL.joinL [44, 32] ws ++ [41]))) H
theorem famO_tx : Str.ofString "Family(" = tx [70, 97, 109, 105, 108, 121, 40] := by decide +kernel
theorem comma_tx : Str.ofString ", " = tx [44, 32] := by decide +kernel
theorem close_tx : Str.ofString ")" = tx [41] := by decide +kernel
theorem lic_short : ∀ w ∈ LICS, w.length ≤ 5 := by decide
theorem sum_short : ∀ ws : List (List Nat), (∀ w ∈ ws, w ∈ LICS) → (ws.map (·.length)).sum ≤ 5 * ws.length
  | [], _ => by simp
  | x :: ws, h => by
    have h1 := sum_short ws fun w hw => h w (List.mem_cons_of_mem _ hw)
    have h2 := lic_short x (h x (List.mem_cons_self ..))
    rw [List.map_cons, List.sum_cons, List.length_cons]
    omega
theorem ok_Family_repr (T : Txt K mg a) : FnOk P w K mg base CX0 1 a.f_Family_repr a.fd_Family_repr ["self"]  (sp_Family_repr a) := by
  refine T.F_Family_repr.ok sc_Family_repr (fun vs H Q E h => ?_) (fun cdv A outer s H vs Q E hr h => ?_)
  · obtain ⟨_, _, rfl, _⟩ := h
    rfl
  · obtain ⟨p, ws, rfl, h1, hw, hl, k⟩ := h
    obtain ⟨dx, q, hp, hq⟩ := h1.ex
    refine ⟨_, ((pss_one (ps_ret (pe_joined (.cons pe_str (.cons (pe_fmt (pe_joinR (K := K) pe_str (pe_fld (pv 0) rfl))) (.cons pe_str .nil))))))), ?_⟩
    try simp only [cxK, famO_tx, comma_tx, close_tx, empty_tx]
    have hs := sum_short ws hw
    have hj := joinL_len [44, 32] ws
    have e2 : ([44, 32] : List Nat).length = 2 := rfl
    rw [e2] at hj
    lcg_off
    refine rd_joinW (.inr (sqT_of hq)) (by rw [e2]; omega) ?_
    lcg_off
    exact k
end
end K87

namespace K87
open PySem L2 Hk
/-! ### families as sets -/
theorem mem_fam {ws : List (List Nat)} {w : List Nat} : w ∈ fam ws ↔ w ∈ LICS ∧ w ∈ ws := by simp [fam, List.mem_filter]
theorem fam_congr {x y : List (List Nat)} (h : ∀ w ∈ LICS, w ∈ x ↔ w ∈ y) : fam x = fam y := by
  unfold fam
  refine List.filter_congr fun w hw => ?_
  have := h w hw
  by_cases c : w ∈ x
  · simp [c, this.mp c]
  · have c2 : ¬ w ∈ y := fun z => c (this.mpr z)
    simp [c, c2]
theorem fam_eq {x y : List (List Nat)} : fam x = fam y ↔ ∀ w ∈ LICS, (w ∈ x ↔ w ∈ y) := by
  refine ⟨fun h w hw => ?_, fam_congr⟩
  have e : w ∈ fam x ↔ w ∈ fam y := by rw [h]
  rw [mem_fam, mem_fam] at e
  exact ⟨fun z => (e.mp ⟨hw, z⟩).2, fun z => (e.mpr ⟨hw, z⟩).2⟩
theorem mem_gAnd {x y : List (List Nat)} {w : List Nat} : w ∈ gAnd x y ↔ w ∈ x ∧ w ∈ y := by simp [gAnd, List.mem_filter]
theorem mem_gSub {x y : List (List Nat)} {w : List Nat} : w ∈ gSub x y ↔ w ∈ x ∧ ¬ w ∈ y := by simp [gSub, List.mem_filter]
theorem within_iff {x y : List (List Nat)} : within x y = true ↔ ∀ w ∈ x, w ∈ y := by simp [within, List.all_eq_true]
theorem count_or_and {α : Type} (p q : α → Bool) : ∀ l : List α, (l.filter fun x => p x || q x).length + (l.filter fun x => p x && q x).length = (l.filter p).length + (l.filter q).length
  | [] => rfl
  | x :: l => by
    have h := count_or_and p q l
    cases h1 : p x <;> cases h2 : q x <;> simp [h1, h2] <;> omega
theorem fam_count (x y : List (List Nat)) : (fam (fam x ++ fam y)).length + (fam (gAnd (fam x) (fam y))).length = (fam x).length + (fam y).length := by
  have e1 : fam (fam x ++ fam y) = LICS.filter fun w => decide (w ∈ x) || decide (w ∈ y) := by
    refine (fam_congr (y := x ++ y) fun w hw => ?_).trans ?_
    · simp [mem_fam, hw]
    · unfold fam
      refine List.filter_congr fun w hw => ?_
      simp
  have e2 : fam (gAnd (fam x) (fam y)) = LICS.filter fun w => decide (w ∈ x) && decide (w ∈ y) := by
    refine (fam_congr (y := gAnd x y) fun w hw => ?_).trans ?_
    · simp [mem_fam, mem_gAnd, hw]
    · unfold fam
      refine List.filter_congr fun w hw => ?_
      simp [mem_gAnd]
  rw [e1, e2]
  exact count_or_and _ _ _
theorem sub_nil {x y : List (List Nat)} : gSub x y = [] ↔ ∀ w ∈ x, w ∈ y := by
  unfold gSub
  rw [List.filter_eq_nil_iff]
  simp
theorem within_fam {x y : List (List Nat)} (hx : ∀ w ∈ x, w ∈ LICS) : within (fam x) (fam y) = decide (gSub x y = []) := by
  rw [Bool.eq_iff_iff, within_iff, decide_eq_true_iff, sub_nil]
  constructor
  · intro h w hw
    exact (mem_fam.mp (h w (mem_fam.mpr ⟨hx w hw, hw⟩))).2
  · intro h w hw
    have := mem_fam.mp hw
    exact mem_fam.mpr ⟨this.1, h w this.2⟩
theorem or_fam {x y : List (List Nat)} (hx : ∀ w ∈ x, w ∈ LICS) : decide (fam (fam x ++ fam y) = fam y) = decide (gSub x y = []) := by
  rw [Bool.eq_iff_iff, decide_eq_true_iff, decide_eq_true_iff, sub_nil, fam_eq]
  constructor
  · intro h w hw
    exact (h w (hx w hw)).mp (List.mem_append_left _ (mem_fam.mpr ⟨hx w hw, hw⟩))
  · intro h w hw
    rw [List.mem_append, mem_fam, mem_fam]
    constructor
    · rintro (z | z)
      · exact h w z.2
      · exact z.2
    · exact fun z => .inr ⟨hw, z⟩
theorem and_fam {x y : List (List Nat)} (hx : ∀ w ∈ x, w ∈ LICS) : decide (fam (gAnd (fam x) (fam y)) = fam x) = decide (gSub x y = []) := by
  rw [Bool.eq_iff_iff, decide_eq_true_iff, decide_eq_true_iff, sub_nil, fam_eq]
  constructor
  · intro h w hw
    exact (mem_fam.mp (mem_gAnd.mp ((h w (hx w hw)).mpr hw)).2).2
  · intro h w hw
    rw [mem_gAnd, mem_fam, mem_fam]
    exact ⟨fun z => z.1.2, fun z => ⟨⟨hw, z⟩, hw, h w z⟩⟩
/-! ### own methods, asked -/
section
variable {X : Cx} {a : Ad}
theorem own_Family_eq (T : Txt X.K X.mg a) : Own X a.C_Family "__eq__" 1 (sp_Family_eq a X.K) E0 := ⟨_, _, _, CX0, ok_Family_eq T, T.m_Family_eq.at_, T.m_Family_eq.fn, T.b_Family_eq, pass0⟩
theorem own_Family_len (T : Txt X.K X.mg a) : Own X a.C_Family "__len__" 1 (sp_Family_len a) E0 := ⟨_, _, _, CX0, ok_Family_len T, T.m_Family_len.at_, T.m_Family_len.fn, T.b_Family_len, pass0⟩
theorem own_Family_repr (T : Txt X.K X.mg a) : Own X a.C_Family "__repr__" 1 (sp_Family_repr a) E0 := ⟨_, _, _, CX0, ok_Family_repr T, T.m_Family_repr.at_, T.m_Family_repr.fn, T.b_Family_repr, pass0⟩
theorem own_Family_and (T : Txt X.K X.mg a) : Own X a.C_Family "__and__" 3 (sp_bin a gAnd) E0 := ⟨_, _, _, CX0, ok_Family_and T, T.m_Family_and.at_, T.m_Family_and.fn, T.b_Family_and, pass0⟩
theorem own_Family_or (T : Txt X.K X.mg a) : Own X a.C_Family "__or__" 3 (sp_bin a (fun x y => x ++ y)) E0 := ⟨_, _, _, CX0, ok_Family_or T, T.m_Family_or.at_, T.m_Family_or.fn, T.b_Family_or, pass0⟩
theorem own_Family_sub (T : Txt X.K X.mg a) : Own X a.C_Family "__sub__" 3 (sp_bin a gSub) E0 := ⟨_, _, _, CX0, ok_Family_sub T, T.m_Family_sub.at_, T.m_Family_sub.fn, T.b_Family_sub, pass0⟩
end
section
variable {K : PySem.W.Frag} {a : Ad} {H : Hp} {Q : VK} {p p2 : Addr} {x y : List (List Nat)} {E : XK}
theorem ask_bin {g : List (List Nat) → List (List Nat) → List (List Nat)} (h1 : FamAt a H p (fam x)) (h2 : FamAt a H p2 (fam y)) (q : ∀ r H', Same H H' → H r = none → FamAt a H' r (fam (g (fam x) (fam y))) → Q (.ref r) H') : rBinO a.C_Family (sp_bin a g) E (.ref p) (.ref p2) H Q := by
  obtain ⟨dx, q1, hp, _⟩ := h1.ex
  obtain ⟨dx2, q2, hp2, _⟩ := h2.ex
  exact ⟨p, dx, _, p2, dx2, _, rfl, rfl, hp, hp2, p, p2, fam x, fam y, rfl, h1, h2, fun w => fam_sub, fun w => fam_sub, fam_len x, fam_len y, fun r H' s n F => ⟨r, rfl, q r H' s n F⟩⟩
theorem ask_eq {X : Cx} (h1 : FamAt a H p (fam x)) (h2 : FamAt a H p2 (fam y)) (q : Q (.bl (decide (fam x = fam y))) H) : rEqO X a.C_Family (sp_Family_eq a K) E (.ref p) (.ref p2) H Q := by
  obtain ⟨dx, q1, hp, _⟩ := h1.ex
  obtain ⟨dx2, q2, hp2, _⟩ := h2.ex
  exact ⟨p, dx, _, rfl, hp, .inl ⟨p2, dx2, _, rfl, hp2⟩, p, .ref p2, fam x, rfl, h1, fun w => fam_sub, .inl ⟨p2, fam y, rfl, h2, fun w => fam_sub, _, rfl, q⟩⟩
theorem ask_ne {X : Cx} (h1 : FamAt a H p (fam x)) (h2 : FamAt a H p2 (fam y)) (q : Q (.bl (!decide (fam x = fam y))) H) : rNeO X a.C_Family (sp_Family_eq a K) E (.ref p) (.ref p2) H Q := by
  obtain ⟨dx, q1, hp, _⟩ := h1.ex
  obtain ⟨dx2, q2, hp2, _⟩ := h2.ex
  exact ⟨p, dx, _, rfl, hp, .inl ⟨p2, dx2, _, rfl, hp2⟩, p, .ref p2, fam x, rfl, h1, fun w => fam_sub, .inl ⟨p2, fam y, rfl, h2, fun w => fam_sub, _, rfl, q⟩⟩
theorem notFirst_of {C : Addr} {t : String} (h : PySem.W.subIn K (.type t) (.ref C) = some false) : PySem.W.notFirst K C (.type t) = true := by
  unfold PySem.W.notFirst
  rw [h]
  simp
theorem ask_eqN {X : Cx} {v : V} (h1 : FamAt a H p (fam x)) (n : NotFam X.K a H v) (q : Q (.bl false) H) : rEqO X a.C_Family (sp_Family_eq a X.K) E (.ref p) v H Q := by
  obtain ⟨dx, q1, hp, _⟩ := h1.ex
  obtain ⟨t, ht, hs⟩ := n
  exact ⟨p, dx, _, rfl, hp, .inr ⟨_, ht, notFirst_of hs⟩, p, v, fam x, rfl, h1, fun w => fam_sub, .inr ⟨⟨t, ht, hs⟩, _, rfl, q⟩⟩
theorem ask_neN {X : Cx} {v : V} (h1 : FamAt a H p (fam x)) (n : NotFam X.K a H v) (q : Q (.bl true) H) : rNeO X a.C_Family (sp_Family_eq a X.K) E (.ref p) v H Q := by
  obtain ⟨dx, q1, hp, _⟩ := h1.ex
  obtain ⟨t, ht, hs⟩ := n
  exact ⟨p, dx, _, rfl, hp, .inr ⟨_, ht, notFirst_of hs⟩, p, v, fam x, rfl, h1, fun w => fam_sub, .inr ⟨⟨t, ht, hs⟩, _, rfl, q⟩⟩
theorem ask_len (h1 : FamAt a H p (fam x)) (q : Q (.int ((fam x).length : Nat)) H) : rLenO a.C_Family (sp_Family_len a) E [.ref p] H Q := by
  obtain ⟨dx, q1, hp, _⟩ := h1.ex
  have := fam_len x
  exact ⟨p, dx, _, rfl, hp, p, fam x, rfl, h1, _, rfl, ⟨by omega, by omega⟩, q⟩
theorem ask_repr (h1 : FamAt a H p (fam x)) (q : ∀ z, Q (.str z) H) : rReprO a.C_Family (sp_Family_repr a) E [.ref p] H Q := by
  obtain ⟨dx, q1, hp, _⟩ := h1.ex
  exact ⟨p, dx, _, rfl, hp, p, fam x, rfl, h1, fun w => fam_sub, fam_len x, _, rfl, q _⟩
theorem methF {m : Str} {sp : Sp} {tt : TA} {σ : L2.St} (h1 : FamAt a H p x) (e : (m == ("words" : Str)) = false) (q : tt σ H fun vs H2 => sp (.ref p :: (vs ++ [])) H2 Q E) : MethK a.C_Family m sp E tt σ (.ref p) H Q := by
  obtain ⟨dx, _, h, _⟩ := h1.ex
  exact rd_methK h (fF_no e) q
theorem rd_fam {P : Program} {mg : Str → Option Value} (T : Txt K mg a) (h1 : FamAt a H p x) (k : ∀ q, H q = some (.tup (x.map wd)) → Q (.ref q) H) : FldK K "words" (.ref p) H Q := by
  obtain ⟨dx, q, h, h2⟩ := h1.ex
  exact fldF_words T h (k q h2)
end
end K87

namespace K87
open PySem L2 Hk
local macro_rules | `(tactic| array_mem_dec) => `(tactic| with_reducible first
  | assumption | exact upd_same
  | (apply upd_new; assumption; array_mem_dec)
  | (apply upd_old; tlg_ne; array_mem_dec)
  | (apply same_at; assumption; array_mem_dec))
local macro_rules | `(tactic| tlg_ne) => `(tactic| with_reducible first
  | assumption | (apply Ne.symm; assumption)
  | (apply ne_new; assumption; array_mem_dec) | (apply ne_new'; assumption; array_mem_dec)
  | (apply ne_of; assumption; assumption; (with_unfolding_all (intro z; cases z; done))))
local macro_rules | `(tactic| decreasing_trivial_pre_omega) => `(tactic| with_reducible first
  | assumption | (apply sqL_of; array_mem_dec) | (apply sqT_of; array_mem_dec)
  | (apply Same.seq; assumption; decreasing_trivial_pre_omega) | (apply sqT_same; assumption; decreasing_trivial_pre_omega)
  | (apply sqL_new; assumption; decreasing_trivial_pre_omega) | (apply sqL_upd; tlg_ne; decreasing_trivial_pre_omega))
local macro_rules | `(tactic| kpt_turns) => `(tactic| with_reducible first
  | assumption | exact Same.refl _ | (apply same_ext; kpt_turns; assumption) | (apply same_mut; kpt_turns; keq_hits) | (apply same_step; assumption; kpt_turns))
local macro_rules | `(tactic| keq_hits) => `(tactic| with_reducible first | assumption | (apply same_none; assumption; keq_hits))
local macro_rules | `(tactic| sizeOf_list_dec) => `(tactic| first | (with_reducible assumption) | (with_reducible_and_instances omega) | (with_unfolding_all decide))
local macro_rules | `(tactic| array_get_dec) => `(tactic| first | (with_reducible assumption) | (apply sz_of; (with_unfolding_all simp); done) | (apply sz_of; omega) | (apply sz_lt; (with_unfolding_all simp); done) | (apply sz_lt; omega))
local macro_rules | `(tactic| keq_rows) => `(tactic| with_reducible first
  | apply rd_asgN | apply rd_seq | apply rd_parA | apply rd_par3A | apply rd_par2 | apply rd_par3 | apply rd_m1 | apply rd_isStr | apply rd_cval | apply rd_asg | apply rd_gname | apply rd_op | (show tVar _ _ _ _; refine rd_var (by with_unfolding_all rfl) ?_) | apply rd_c | apply rd_I0
  | apply rd_cons | apply rd_nil | apply rd_cb | apply rd_test | apply rd_bl | apply rd_fld | apply rd_drop | apply rd_ret | apply rd_retN | apply rd_next
  | apply rd_ifS | apply rd_un | apply rd_B | apply rd_and | apply rd_or | apply rd_not | apply rd_andV | apply rd_orV | apply rd_notV | apply rd_if
  | apply rd_int | apply rd_abs | apply rd_max | apply rd_min | apply rd_strS | apply rd_U
  | apply rd_eqTx | apply rd_neTx | apply rd_inTx | apply rd_notInTx | apply rd_fmt | (show FmtK (.str (tx _)) _ _; refine rd_fmtT (by omega) ?_) | apply rd_jsC | apply rd_jsN | (show JsK _ (tx _) _ (.str (tx _)) _ _; refine rd_JsK (by first | omega | (simp; done) | (simp; omega)) ?_) | (show rAddStr (.str (tx _)) (.str (tx _)) _ _; refine rd_addT (by first | omega | (simp; done) | (simp; omega)) ?_) | (show rLenStr [.str (tx _)] _ _; refine rd_lenTx (by omega) ?_)
  | (show rEq _ _ _ _; refine rd_eq (by with_unfolding_all rfl) ?_) | (show rNe _ _ _ _; refine rd_ne (by with_unfolding_all rfl) ?_) | apply rd_isNone | apply rd_notNone
  | (show rIxL _ _ _ _ _; refine rd_ixL (by decreasing_trivial_pre_omega) (by with_unfolding_all rfl) ?_) | (show rIxT _ _ _ _ _; refine rd_ixT (by decreasing_trivial_pre_omega) (by with_unfolding_all rfl) ?_)
  | (show rLenSeq _ _ _ _; refine rd_lenL (by decreasing_trivial_pre_omega) ?_) | (show rLenSeq _ _ _ _; refine rd_lenT (by decreasing_trivial_pre_omega) ?_)
  | (show rI _ _ _ _ _ _; refine rd_mod (by sizeOf_list_dec) ?_) | (show rI _ _ _ _ _ _; refine rd_div (by sizeOf_list_dec) (by sizeOf_list_dec) ?_) | (show rI _ _ _ _ _ _; refine rd_mulR (by sizeOf_list_dec) (by sizeOf_list_dec) ?_) | (show rI _ _ _ _ _ _; refine rd_mulL (by sizeOf_list_dec) (by sizeOf_list_dec) ?_) | (show rI _ _ _ _ _ _; refine rd_pow (by sizeOf_list_dec) ?_)
  | (show rSetL _ _ _ _ _; refine rd_setL (by array_mem_dec) (by with_unfolding_all rfl) ?_)
  | (show rSlL _ _ _ _ _ _; refine rd_slL (by decreasing_trivial_pre_omega) ?_) | apply rd_inSign | apply rd_notInSign | apply rd_tup | apply rd_lst | apply rd_sl | apply rd_noPart | apply rd_part | apply rd_isInt
  | apply rd_gsub | apply rd_gcons | apply rd_gnil | apply rd_call | apply rd_meth | apply rd_make | apply rd_smeth | apply rd_isC | apply rd_smethK | apply rd_cmeth | apply rd_cmethK
  | apply rd_bm | apply rd_bm0 | (show BmK _ _ _ _ _ _ _ _; refine rd_bmL (by array_mem_dec) ?_) | (show Bm0K _ _ _ _ _ _; refine rd_bm0L (by array_mem_dec) ?_) | apply rd_sfld | apply rd_aug | apply rd_rAdd | apply rd_brk | apply rd_cont
  | apply rd_for | apply rd_iList | (show IList _ _ _ _; refine rd_IList (by decreasing_trivial_pre_omega) ?_) | apply rd_iTup | (show ITup _ _ _ _; refine rd_ITup (by decreasing_trivial_pre_omega) ?_) | apply rd_iEnum | (show IEnum _ _ _ _; refine rd_IEnum (by decreasing_trivial_pre_omega) ?_) | apply rd_iRng1 | (show IRng1 _ _ _; refine rd_IRng1 (by sizeOf_list_dec) (by sizeOf_list_dec) ?_)
  | (show List.length _ ≤ sizeLine ∧ _; refine rd_new (by array_get_dec) ?_) | (show rLenStr _ _ _; refine rd_lenS (by array_get_dec) ?_) | (show rAddStr _ _ _ _; refine rd_addS (by array_get_dec) ?_) | (show rSlS _ _ _ _ _; refine rd_slS (by array_get_dec) ?_) | apply rd_lc | apply rd_yes | (show gTup _ _ _ _ _ _ _; refine rd_gtup (by decreasing_trivial_pre_omega) (by with_unfolding_all rfl) ?_) | (show tMakeL _ _ _ _ _ _ _ _; refine rd_makeL (by with_unfolding_all rfl) ?_))
local macro_rules | `(tactic| kas_types) => `(tactic| with_reducible first | apply rd_isi_int_int | apply rd_isi_int_bool | apply rd_isi_int_str | apply rd_isi_int_list | apply rd_isi_int_tuple | apply rd_isi_bool_int | apply rd_isi_bool_bool | apply rd_isi_bool_str | apply rd_isi_bool_list | apply rd_isi_bool_tuple | apply rd_isi_str_int | apply rd_isi_str_bool | apply rd_isi_str_str | apply rd_isi_str_list | apply rd_isi_str_tuple | (show rIsi _ _ _ _; refine rd_isi_list_int (by array_mem_dec) ?_) | (show rIsi _ _ _ _; refine rd_isi_list_bool (by array_mem_dec) ?_) | (show rIsi _ _ _ _; refine rd_isi_list_str (by array_mem_dec) ?_) | (show rIsi _ _ _ _; refine rd_isi_list_list (by array_mem_dec) ?_) | (show rIsi _ _ _ _; refine rd_isi_list_tuple (by array_mem_dec) ?_) | (show rIsi _ _ _ _; refine rd_isi_tuple_int (by array_mem_dec) ?_) | (show rIsi _ _ _ _; refine rd_isi_tuple_bool (by array_mem_dec) ?_) | (show rIsi _ _ _ _; refine rd_isi_tuple_str (by array_mem_dec) ?_) | (show rIsi _ _ _ _; refine rd_isi_tuple_list (by array_mem_dec) ?_) | (show rIsi _ _ _ _; refine rd_isi_tuple_tuple (by array_mem_dec) ?_) | apply rd_isi_NoneType_int | apply rd_isi_NoneType_bool | apply rd_isi_NoneType_str | apply rd_isi_NoneType_list | apply rd_isi_NoneType_tuple)
local macro_rules | `(tactic| lcg_src) => `(tactic| repeat keq_rows)

/-- a family that stands -/
local macro_rules | `(tactic| lcg_sub) => `(tactic| first | assumption | (refine FamAt.mono ?_ (by assumption); kpt_turns))
local macro_rules | `(tactic| lcg_off) => `(tactic| repeat (first | keq_rows | (with_reducible refine ask_bin (by lcg_sub) (by lcg_sub) fun _ _ _ _ _ => ?_) | (with_reducible refine ask_eq (by lcg_sub) (by lcg_sub) ?_) | (with_reducible refine ask_ne (by lcg_sub) (by lcg_sub) ?_) | (with_reducible refine ask_len (by lcg_sub) ?_)))
section
variable {P : Program} {w : World} {K : PySem.W.Frag} {mg : Str → Option Value} {base : Heap} {a : Ad}
def sp_law_has (a : Ad) : Sp := fun vs H Q _ => ∃ (p l : Addr) (x ws : List (List Nat)), vs = [.ref p, .ref l] ∧ FamAt a H p (fam x) ∧ H l = some (.lst (ws.map wd)) ∧ (∀ w ∈ ws, w ∈ LICS) ∧
  ∀ H', Same H H' → Q (.bl (decide (fam x = fam ws))) H'
theorem ok_law_has (T : Txt K mg a) : FnOk P w K mg base CX0 3 a.f_law_has a.fd_law_has ["_law_family", "_law_words"]  (sp_law_has a) := by
  refine T.F_law_has.ok sc_law_has (fun vs H Q E h => ?_) (fun cdv A outer s H vs Q E hr h => ?_)
  · obtain ⟨_, _, _, _, rfl, _⟩ := h
    rfl
  · obtain ⟨p, l, x, ws, rfl, h1, hl, hw, k⟩ := h
    refine ⟨_, ((pss_one (ps_ret (pe_and (pe_cmpR (op_eqD hr.units) (pe_callTy call_listOf (by rfl) T.n_list (by decide +kernel) (pa_cons (pe_fld (pv 0) rfl) pa_nil)) (pe_call (ok_law_sorted T) hr rfl T.g_law_sorted T.F_law_sorted.kp T.b_law_sorted .nil pass0 (pa_cons (pv 1) pa_nil)) (nomark _)) (pe_one (pe_cmpR (op_eqO (own_Family_eq T) (hr.mono (by decide))) (pv 0) (pe_make T.mk_Family (ok_Family_init T) hr rfl T.g_Family T.b_Family_init .nil pass0 (pa_cons (pv 1) pa_nil)) (nomark _))))))), ?_⟩
    try simp only [cxK]
    lcg_off
    refine rd_fam (P := P) T h1 fun q hq => ?_
    lcg_off
    refine rd_listT (sqT_of hq) fun l2 hl2 => ?_
    lcg_off
    refine ⟨l, ws, rfl, sqL_of (upd_new hl2 hl), fun D H2 hD s2 h2 => ?_⟩
    have s2' := (same_new hl2).trans s2
    refine rd_eqWL (sqL_of (s2 _ _ upd_same)) (sqL_of h2) fam_okT fam_okT ?_
    lcg_off
    refine ifD (fun c => ?_) (fun c => ?_)
    · lcg_off
      refine make_fam (s2' _ _ hl) hw fun r H3 s3 hr3 hF => ?_
      lcg_off
      exact k H3 (s2'.trans s3)
    · have e : decide (fam x = fam ws) = false := by simp [c]
      rw [e] at k
      exact k H2 s2'
def sp_law_signs_right (a : Ad) : Sp := fun vs H Q _ => ∃ (p p2 l l2 : Addr) (x y : List (List Nat)), vs = [.ref p, .ref p2, .ref l, .ref l2] ∧ FamAt a H p (fam x) ∧ FamAt a H p2 (fam y) ∧ H l = some (.lst (x.map wd)) ∧ H l2 = some (.lst (y.map wd)) ∧ (∀ w ∈ x, w ∈ LICS) ∧ (∀ w ∈ y, w ∈ LICS) ∧ x.length ≤ 20 ∧ y.length ≤ 20 ∧
  ∀ H', Same H H' → Q (.bl true) H'
theorem bl_ne {b c : Bool} (h : b = c) : (!decide (V.bl b = V.bl c)) = false := by subst h; simp
theorem tT {c : Prop} [Decidable c] (h : c) : (!decide c) = false := by simp [h]
theorem ok_law_signs_right (T : Txt K mg a) : FnOk P w K mg base CX0 4 a.f_law_signs_right a.fd_law_signs_right ["_law_one", "_law_other", "_law_first", "_law_second"]  (sp_law_signs_right a) := by
  refine T.F_law_signs_right.ok sc_law_signs_right (fun vs H Q E h => ?_) (fun cdv A outer s H vs Q E hr h => ?_)
  · obtain ⟨_, _, _, _, _, _, rfl, _⟩ := h
    rfl
  · obtain ⟨p, p2, l, l2, x, y, rfl, h1, h2, hl, hl2, hx, hy, hxl, hyl, k⟩ := h
    refine ⟨_, ((pss_cons (ps_if (pt_not (pt_val (pe_call (ok_law_has T) hr rfl T.g_law_has T.F_law_has.kp T.b_law_has .nil pass0 (pa_cons (pe_op (op_binO (own_Family_and T) T.sf_Family hr) (pv 0) (pv 1)) (pa_cons (pe_lc (own := [("_law_word", 4)]) (g := gName 4) rfl sc_law_signs_right.nd (pi_list (pv 2)) (blkOk_by (own := [("_law_word", 4)]) (N := ["_law_one", "_law_other", "_law_first", "_law_second", "_law_word", "_law_within", "_law_same"]) (sc := defScope s_law_signs_right) (by decide +kernel)) (fun _ _ _ _ _ => (pg_name (i := 4) sc_law_signs_right.nd rfl (Or.inl rfl))) (fun _ _ _ _ _ => (pts_one (pt_cmpR (op_inSeqK (K := K)) (pv 4) (pv 3) (by rfl)))) (fun _ _ _ _ _ => (pv 4))) pa_nil)))))
 (pss_one (ps_ret pe_bl))
 pss_nil)
 (pss_cons (ps_if (pt_not (pt_val (pe_call (ok_law_has T) hr rfl T.g_law_has T.F_law_has.kp T.b_law_has .nil pass0 (pa_cons (pe_op (op_binO (own_Family_or T) T.sf_Family hr) (pv 0) (pv 1)) (pa_cons (pe_op op_cat (pv 2) (pv 3)) pa_nil)))))
 (pss_one (ps_ret pe_bl))
 pss_nil)
 (pss_cons (ps_if (pt_not (pt_val (pe_call (ok_law_has T) hr rfl T.g_law_has T.F_law_has.kp T.b_law_has .nil pass0 (pa_cons (pe_op (op_binO (own_Family_sub T) T.sf_Family hr) (pv 0) (pv 1)) (pa_cons (pe_lc (own := [("_law_word", 4)]) (g := gName 4) rfl sc_law_signs_right.nd (pi_list (pv 2)) (blkOk_by (own := [("_law_word", 4)]) (N := ["_law_one", "_law_other", "_law_first", "_law_second", "_law_word", "_law_within", "_law_same"]) (sc := defScope s_law_signs_right) (by decide +kernel)) (fun _ _ _ _ _ => (pg_name (i := 4) sc_law_signs_right.nd rfl (Or.inl rfl))) (fun _ _ _ _ _ => (pts_one (pt_cmpR (op_notInSeqK (K := K)) (pv 4) (pv 3) (by rfl)))) (fun _ _ _ _ _ => (pv 4))) pa_nil)))))
 (pss_one (ps_ret pe_bl))
 pss_nil)
 (pss_cons (ps_set (i := 5) sc_law_signs_right.nd rfl (Or.inl rfl) (pe_cmpR (op_eqD hr.units) (pe_lc (own := [("_law_word", 4)]) (g := gName 4) rfl sc_law_signs_right.nd (pi_list (pv 2)) (blkOk_by (own := [("_law_word", 4)]) (N := ["_law_one", "_law_other", "_law_first", "_law_second", "_law_word", "_law_within", "_law_same"]) (sc := defScope s_law_signs_right) (by decide +kernel)) (fun _ _ _ _ _ => (pg_name (i := 4) sc_law_signs_right.nd rfl (Or.inl rfl))) (fun _ _ _ _ _ => (pts_one (pt_cmpR (op_notInSeqK (K := K)) (pv 4) (pv 3) (by rfl)))) (fun _ _ _ _ _ => (pv 4))) (pe_lst pa_nil) (nomark _)))
 (pss_cons (ps_if (PW.pt (pw_or (pt_cmpR op_ne (pe_meth (pv 0) T.cl_Family T.m_Family_is_within (ok_Family_is_within T) (hr.mono (by decide)) T.b_Family_is_within .nil pass0 (pa_cons (pv 1) pa_nil)) (pv 5) (nomark _)) (pw_or (pt_cmpR op_ne (pe_cmpR (op_eqO (own_Family_eq T) (hr.mono (by decide))) (pe_op (op_binO (own_Family_or T) T.sf_Family hr) (pv 0) (pv 1)) (pv 1) (nomark _)) (pv 5) (nomark _)) (pw_or1 (pt_cmpR op_ne (pe_cmpR (op_eqO (own_Family_eq T) (hr.mono (by decide))) (pe_op (op_binO (own_Family_and T) T.sf_Family hr) (pv 0) (pv 1)) (pv 0) (nomark _)) (pv 5) (nomark _))))))
 (pss_one (ps_ret pe_bl))
 pss_nil)
 (pss_cons (ps_set (i := 6) sc_law_signs_right.nd rfl (Or.inl rfl) (pe_cmpR (op_eqD hr.units) (pe_call (ok_law_sorted T) (hr.mono (by decide)) rfl T.g_law_sorted T.F_law_sorted.kp T.b_law_sorted .nil pass0 (pa_cons (pv 2) pa_nil)) (pe_call (ok_law_sorted T) (hr.mono (by decide)) rfl T.g_law_sorted T.F_law_sorted.kp T.b_law_sorted .nil pass0 (pa_cons (pv 3) pa_nil)) (nomark _)))
 (pss_cons (ps_if (PW.pt (pw_or (pt_cmpR op_ne (pe_cmpR (op_eqO (own_Family_eq T) (hr.mono (by decide))) (pv 0) (pv 1) (nomark _)) (pv 6) (nomark _)) (pw_or1 (pt_cmpR op_eq (pe_cmpR (op_neO (own_Family_eq T) T.ne_Family (hr.mono (by decide))) (pv 0) (pv 1) (nomark _)) (pv 6) (nomark _)))))
 (pss_one (ps_ret pe_bl))
 pss_nil)
 (pss_one (ps_ret (pe_and (pe_callB call_isi (by rfl) T.n_isinstance (by decide +kernel) (pa_cons (pe_op (op_binO (own_Family_and T) T.sf_Family hr) (pv 0) (pv 1)) (pa_cons (pe_glob (v := .ref _) rfl T.g_Family rfl) pa_nil))) (pe_one (pe_cmpR op_eq (pe_op op_add (pe_callB (call_lenO (own_Family_len T) (hr.mono (by decide))) (by rfl) T.n_len (by decide +kernel) (pa_cons (pe_op (op_binO (own_Family_or T) T.sf_Family hr) (pv 0) (pv 1)) pa_nil)) (pe_callB (call_lenO (own_Family_len T) (hr.mono (by decide))) (by rfl) T.n_len (by decide +kernel) (pa_cons (pe_op (op_binO (own_Family_and T) T.sf_Family hr) (pv 0) (pv 1)) pa_nil))) (pe_op op_add (pe_callB (call_lenO (own_Family_len T) (hr.mono (by decide))) (by rfl) T.n_len (by decide +kernel) (pa_cons (pv 0) pa_nil)) (pe_callB (call_lenO (own_Family_len T) (hr.mono (by decide))) (by rfl) T.n_len (by decide +kernel) (pa_cons (pv 1) pa_nil))) (nomark _)))))))))))))), ?_⟩
    try simp only [cxK]
    lcg_off
    refine lcL (xs := x.map wd) (rows := x) (by simp) (by rw [List.length_map]; omega) (sqL_of (by array_mem_dec)) (fun w => decide (w ∈ y)) wd (fun i z r H1 hz hr1 s1 Done Kept hd hk => ?_) fun D H3 hD s3 h3 => ?_
    · rw [List.getElem?_map, hr1] at hz
      obtain rfl : wd r = z := Option.some.inj hz
      unfold wd
      lcg_off
      refine ⟨rfl, ?_⟩
      lcg_off
      refine rd_inWL (sqL_of (by array_mem_dec)) ?_
      lcg_off
      refine ifB (fun c => ?_) (fun c => ?_)
      · lcg_off
        exact hk H1 (Same.refl _) c
      · exact hd H1 (Same.refl _) c
    · lcg_off
      refine ⟨_, D, _, gAnd x y, rfl, by lcg_sub, h3, (fun w h => hx w (mem_gAnd.mp h).1), fun H4 s4 => ?_⟩
      lcg_off
      refine ifF (tT (fam_congr fun w hw => by simp [mem_gAnd, mem_fam, hw])) ?_
      lcg_off
      refine rd_cat (xs := x.map wd) (ys := y.map wd) (by array_mem_dec) (by array_mem_dec) (by simp; omega) fun l3 hl3 => ?_
      lcg_off
      refine ⟨_, l3, _, x ++ y, rfl, by lcg_sub, by rw [List.map_append]; exact upd_same, (fun w h => (List.mem_append.mp h).elim (hx w) (hy w)), fun H5 s5 => ?_⟩
      lcg_off
      refine ifF (tT (fam_congr fun w hw => by simp [mem_fam, hw])) ?_
      lcg_off
      refine lcL (xs := x.map wd) (rows := x) (by simp) (by rw [List.length_map]; omega) (sqL_of (by array_mem_dec)) (fun w => !decide (w ∈ y)) wd (fun i z r H1 hz hr1 s1 Done Kept hd hk => ?_) fun D2 H6 hD2 s6 h6 => ?_
      · rw [List.getElem?_map, hr1] at hz
        obtain rfl : wd r = z := Option.some.inj hz
        unfold wd
        lcg_off
        refine ⟨rfl, ?_⟩
        lcg_off
        refine rd_notInWL (sqL_of (by array_mem_dec)) ?_
        lcg_off
        refine ifB (fun c => ?_) (fun c => ?_)
        · lcg_off
          exact hk H1 (Same.refl _) c
        · exact hd H1 (Same.refl _) c
      · lcg_off
        refine ⟨_, D2, _, gSub x y, rfl, by lcg_sub, h6, (fun w h => hx w (mem_gSub.mp h).1), fun H7 s7 => ?_⟩
        lcg_off
        refine ifF (tT (fam_congr fun w hw => by simp [mem_gSub, mem_fam, hw])) ?_
        have hl7 : H7 l = some (.lst (x.map wd)) := by array_mem_dec
        have hl72 : H7 l2 = some (.lst (y.map wd)) := by array_mem_dec
        have h17 : FamAt a H7 p (fam x) := by lcg_sub
        have h27 : FamAt a H7 p2 (fam y) := by lcg_sub
        have sH7 : Same H H7 := by kpt_turns
        clear h1 h2 hl hl2
        lcg_off
        refine lcL (xs := x.map wd) (rows := x) (by simp) (by rw [List.length_map]; omega) (sqL_of hl7) (fun w => !decide (w ∈ y)) wd (fun i z r H1 hz hr1 s1 Done Kept hd hk => ?_) fun D3 H8 hD3 s8 h8 => ?_
        · rw [List.getElem?_map, hr1] at hz
          obtain rfl : wd r = z := Option.some.inj hz
          unfold wd
          lcg_off
          refine ⟨rfl, ?_⟩
          lcg_off
          refine rd_notInWL (sqL_of (s1 _ _ hl72)) ?_
          lcg_off
          refine ifB (fun c => ?_) (fun c => ?_)
          · lcg_off
            exact hk H1 (Same.refl _) c
          · exact hd H1 (Same.refl _) c
        · lcg_off
          intro L0 hL0
          refine rd_eqWL (ws := gSub x y) (vs := []) (sqL_of (upd_new hL0 h8)) (sqL_of upd_same) (fun w h => lics_okT w (hx w (mem_gSub.mp h).1)) (fun w h => by cases h) ?_
          lcg_off
          refine methF (x := fam x) (by lcg_sub) (by decide +kernel) ?_
          lcg_off
          refine ⟨p, p2, fam x, fam y, rfl, by lcg_sub, by lcg_sub, fam_len x, fun H9 s9 => ?_⟩
          rw [within_fam hx]
          lcg_off
          refine ifF (bl_ne rfl) ?_
          lcg_off
          rw [or_fam hx]
          lcg_off
          refine ifF (bl_ne rfl) ?_
          lcg_off
          rw [and_fam hx]
          lcg_off
          refine ifF (bl_ne rfl) ?_
          lcg_off
          refine ⟨l, x, rfl, sqL_of (by array_mem_dec), fun D4 Ha hD4 sa ha => ?_⟩
          lcg_off
          refine ⟨l2, y, rfl, sqL_of (by array_mem_dec), fun D5 Hb hD5 sb hb => ?_⟩
          refine rd_eqWL (ws := fam x) (vs := fam y) (sqL_of (sb _ _ ha)) (sqL_of hb) fam_okT fam_okT ?_
          lcg_off
          refine ifF (bl_ne rfl) ?_
          lcg_off
          refine ifF (by simp) ?_
          lcg_off
          obtain ⟨_, _, hI, _⟩ := FamAt.ex (by assumption)
          refine rd_isi_own T.ty_Family hI ?_
          lcg_off
          refine iteT ?_
          lcg_off
          have hc := fam_count x y
          have ee : ∀ i j : Int, i = j → V.bl (decide (V.int i = V.int j)) = V.bl true := fun i j h => by subst h; simp
          rw [ee]
          · exact k _ (by kpt_turns)
          · omega
end
end K87

namespace K87
open PySem L2 Hk
local macro_rules | `(tactic| array_mem_dec) => `(tactic| with_reducible first
  | assumption | exact upd_same
  | (apply upd_new; assumption; array_mem_dec)
  | (apply upd_old; tlg_ne; array_mem_dec)
  | (apply same_at; assumption; array_mem_dec))
local macro_rules | `(tactic| tlg_ne) => `(tactic| with_reducible first
  | assumption | (apply Ne.symm; assumption)
  | (apply ne_new; assumption; array_mem_dec) | (apply ne_new'; assumption; array_mem_dec)
  | (apply ne_of; assumption; assumption; (with_unfolding_all (intro z; cases z; done))))
local macro_rules | `(tactic| decreasing_trivial_pre_omega) => `(tactic| with_reducible first
  | assumption | (apply sqL_of; array_mem_dec) | (apply sqT_of; array_mem_dec)
  | (apply Same.seq; assumption; decreasing_trivial_pre_omega) | (apply sqT_same; assumption; decreasing_trivial_pre_omega)
  | (apply sqL_new; assumption; decreasing_trivial_pre_omega) | (apply sqL_upd; tlg_ne; decreasing_trivial_pre_omega))
local macro_rules | `(tactic| kpt_turns) => `(tactic| with_reducible first
  | assumption | exact Same.refl _ | (apply same_ext; kpt_turns; assumption) | (apply same_mut; kpt_turns; keq_hits) | (apply same_step; assumption; kpt_turns))
local macro_rules | `(tactic| keq_hits) => `(tactic| with_reducible first | assumption | (apply same_none; assumption; keq_hits))
local macro_rules | `(tactic| sizeOf_list_dec) => `(tactic| first | (with_reducible assumption) | (with_reducible_and_instances omega) | (with_unfolding_all decide))
local macro_rules | `(tactic| array_get_dec) => `(tactic| first | (with_reducible assumption) | (apply sz_of; (with_unfolding_all simp); done) | (apply sz_of; omega) | (apply sz_lt; (with_unfolding_all simp); done) | (apply sz_lt; omega))
local macro_rules | `(tactic| keq_rows) => `(tactic| with_reducible first
  | apply rd_asgN | apply rd_seq | apply rd_parA | apply rd_par3A | apply rd_par2 | apply rd_par3 | apply rd_m1 | apply rd_isStr | apply rd_cval | apply rd_asg | apply rd_gname | apply rd_op | (show tVar _ _ _ _; refine rd_var (by with_unfolding_all rfl) ?_) | apply rd_c | apply rd_I0
  | apply rd_cons | apply rd_nil | apply rd_cb | apply rd_test | apply rd_bl | apply rd_fld | apply rd_drop | apply rd_ret | apply rd_retN | apply rd_next
  | apply rd_ifS | apply rd_un | apply rd_B | apply rd_and | apply rd_or | apply rd_not | apply rd_andV | apply rd_orV | apply rd_notV | apply rd_if
  | apply rd_int | apply rd_abs | apply rd_max | apply rd_min | apply rd_strS | apply rd_U
  | apply rd_eqTx | apply rd_neTx | apply rd_inTx | apply rd_notInTx | apply rd_fmt | (show FmtK (.str (tx _)) _ _; refine rd_fmtT (by omega) ?_) | apply rd_jsC | apply rd_jsN | (show JsK _ (tx _) _ (.str (tx _)) _ _; refine rd_JsK (by first | omega | (simp; done) | (simp; omega)) ?_) | (show rAddStr (.str (tx _)) (.str (tx _)) _ _; refine rd_addT (by first | omega | (simp; done) | (simp; omega)) ?_) | (show rLenStr [.str (tx _)] _ _; refine rd_lenTx (by omega) ?_)
  | (show rEq _ _ _ _; refine rd_eq (by with_unfolding_all rfl) ?_) | (show rNe _ _ _ _; refine rd_ne (by with_unfolding_all rfl) ?_) | apply rd_isNone | apply rd_notNone
  | (show rIxL _ _ _ _ _; refine rd_ixL (by decreasing_trivial_pre_omega) (by with_unfolding_all rfl) ?_) | (show rIxT _ _ _ _ _; refine rd_ixT (by decreasing_trivial_pre_omega) (by with_unfolding_all rfl) ?_)
  | (show rLenSeq _ _ _ _; refine rd_lenL (by decreasing_trivial_pre_omega) ?_) | (show rLenSeq _ _ _ _; refine rd_lenT (by decreasing_trivial_pre_omega) ?_)
  | (show rI _ _ _ _ _ _; refine rd_mod (by sizeOf_list_dec) ?_) | (show rI _ _ _ _ _ _; refine rd_div (by sizeOf_list_dec) (by sizeOf_list_dec) ?_) | (show rI _ _ _ _ _ _; refine rd_mulR (by sizeOf_list_dec) (by sizeOf_list_dec) ?_) | (show rI _ _ _ _ _ _; refine rd_mulL (by sizeOf_list_dec) (by sizeOf_list_dec) ?_) | (show rI _ _ _ _ _ _; refine rd_pow (by sizeOf_list_dec) ?_)
  | (show rSetL _ _ _ _ _; refine rd_setL (by array_mem_dec) (by with_unfolding_all rfl) ?_)
  | (show rSlL _ _ _ _ _ _; refine rd_slL (by decreasing_trivial_pre_omega) ?_) | apply rd_inSign | apply rd_notInSign | apply rd_tup | apply rd_lst | apply rd_sl | apply rd_noPart | apply rd_part | apply rd_isInt
  | apply rd_gsub | apply rd_gcons | apply rd_gnil | apply rd_call | apply rd_meth | apply rd_make | apply rd_smeth | apply rd_isC | apply rd_smethK | apply rd_cmeth | apply rd_cmethK
  | apply rd_bm | apply rd_bm0 | (show BmK _ _ _ _ _ _ _ _; refine rd_bmL (by array_mem_dec) ?_) | (show Bm0K _ _ _ _ _ _; refine rd_bm0L (by array_mem_dec) ?_) | apply rd_sfld | apply rd_aug | apply rd_rAdd | apply rd_brk | apply rd_cont
  | apply rd_for | apply rd_iList | (show IList _ _ _ _; refine rd_IList (by decreasing_trivial_pre_omega) ?_) | apply rd_iTup | (show ITup _ _ _ _; refine rd_ITup (by decreasing_trivial_pre_omega) ?_) | apply rd_iEnum | (show IEnum _ _ _ _; refine rd_IEnum (by decreasing_trivial_pre_omega) ?_) | apply rd_iRng1 | (show IRng1 _ _ _; refine rd_IRng1 (by sizeOf_list_dec) (by sizeOf_list_dec) ?_)
  | (show List.length _ ≤ sizeLine ∧ _; refine rd_new (by array_get_dec) ?_) | (show rLenStr _ _ _; refine rd_lenS (by array_get_dec) ?_) | (show rAddStr _ _ _ _; refine rd_addS (by array_get_dec) ?_) | (show rSlS _ _ _ _ _; refine rd_slS (by array_get_dec) ?_) | apply rd_lc | apply rd_yes | (show gTup _ _ _ _ _ _ _; refine rd_gtup (by decreasing_trivial_pre_omega) (by with_unfolding_all rfl) ?_) | (show tMakeL _ _ _ _ _ _ _ _; refine rd_makeL (by with_unfolding_all rfl) ?_))
local macro_rules | `(tactic| kas_types) => `(tactic| with_reducible first | apply rd_isi_int_int | apply rd_isi_int_bool | apply rd_isi_int_str | apply rd_isi_int_list | apply rd_isi_int_tuple | apply rd_isi_bool_int | apply rd_isi_bool_bool | apply rd_isi_bool_str | apply rd_isi_bool_list | apply rd_isi_bool_tuple | apply rd_isi_str_int | apply rd_isi_str_bool | apply rd_isi_str_str | apply rd_isi_str_list | apply rd_isi_str_tuple | (show rIsi _ _ _ _; refine rd_isi_list_int (by array_mem_dec) ?_) | (show rIsi _ _ _ _; refine rd_isi_list_bool (by array_mem_dec) ?_) | (show rIsi _ _ _ _; refine rd_isi_list_str (by array_mem_dec) ?_) | (show rIsi _ _ _ _; refine rd_isi_list_list (by array_mem_dec) ?_) | (show rIsi _ _ _ _; refine rd_isi_list_tuple (by array_mem_dec) ?_) | (show rIsi _ _ _ _; refine rd_isi_tuple_int (by array_mem_dec) ?_) | (show rIsi _ _ _ _; refine rd_isi_tuple_bool (by array_mem_dec) ?_) | (show rIsi _ _ _ _; refine rd_isi_tuple_str (by array_mem_dec) ?_) | (show rIsi _ _ _ _; refine rd_isi_tuple_list (by array_mem_dec) ?_) | (show rIsi _ _ _ _; refine rd_isi_tuple_tuple (by array_mem_dec) ?_) | apply rd_isi_NoneType_int | apply rd_isi_NoneType_bool | apply rd_isi_NoneType_str | apply rd_isi_NoneType_list | apply rd_isi_NoneType_tuple)
local macro_rules | `(tactic| lcg_src) => `(tactic| repeat keq_rows)

/-- a family that stands -/
local macro_rules | `(tactic| lcg_sub) => `(tactic| first | assumption | (refine FamAt.mono ?_ (by assumption); kpt_turns))
local macro_rules | `(tactic| lcg_off) => `(tactic| repeat (first | keq_rows | (with_reducible refine ask_bin (by lcg_sub) (by lcg_sub) fun _ _ _ _ _ => ?_) | (with_reducible refine ask_eq (by lcg_sub) (by lcg_sub) ?_) | (with_reducible refine ask_ne (by lcg_sub) (by lcg_sub) ?_) | (with_reducible refine ask_len (by lcg_sub) ?_)))
section
variable {P : Program} {w : World} {K : PySem.W.Frag} {mg : Str → Option Value} {base : Heap} {a : Ad}
def sp_law_three_right (a : Ad) : Sp := fun vs H Q _ => ∃ (p p2 p3 : Addr) (x y z : List (List Nat)), vs = [.ref p, .ref p2, .ref p3] ∧ FamAt a H p (fam x) ∧ FamAt a H p2 (fam y) ∧ FamAt a H p3 (fam z) ∧
  ∀ H', Same H H' → Q (.bl true) H'
theorem within_true {x y : List (List Nat)} (h : ∀ w ∈ x, w ∈ y) : within x y = true := within_iff.mpr h
theorem ok_law_three_right (T : Txt K mg a) : FnOk P w K mg base CX0 4 a.f_law_three_right a.fd_law_three_right ["_law_one", "_law_other", "_law_third"]  (sp_law_three_right a) := by
  refine T.F_law_three_right.ok sc_law_three_right (fun vs H Q E h => ?_) (fun cdv A outer s H vs Q E hr h => ?_)
  · obtain ⟨_, _, _, _, _, _, rfl, _⟩ := h
    rfl
  · obtain ⟨p, p2, p3, x, y, z, rfl, h1, h2, h3, k⟩ := h
    refine ⟨_, ((pss_cons (ps_if (PW.pt (pw_or (pt_cmpR (op_neO (own_Family_eq T) T.ne_Family (hr.mono (by decide))) (pe_op (op_binO (own_Family_or T) T.sf_Family hr) (pe_op (op_binO (own_Family_and T) T.sf_Family hr) (pv 0) (pv 1)) (pv 2)) (pe_op (op_binO (own_Family_and T) T.sf_Family hr) (pe_op (op_binO (own_Family_or T) T.sf_Family hr) (pv 0) (pv 2)) (pe_op (op_binO (own_Family_or T) T.sf_Family hr) (pv 1) (pv 2))) (nomark _)) (pw_or1 (pt_cmpR (op_neO (own_Family_eq T) T.ne_Family (hr.mono (by decide))) (pe_op (op_binO (own_Family_and T) T.sf_Family hr) (pe_op (op_binO (own_Family_or T) T.sf_Family hr) (pv 0) (pv 1)) (pv 2)) (pe_op (op_binO (own_Family_or T) T.sf_Family hr) (pe_op (op_binO (own_Family_and T) T.sf_Family hr) (pv 0) (pv 2)) (pe_op (op_binO (own_Family_and T) T.sf_Family hr) (pv 1) (pv 2))) (nomark _)))))
 (pss_one (ps_ret pe_bl))
 pss_nil)
 (pss_cons (ps_if (PW.pt (pw_or (pt_cmpR (op_neO (own_Family_eq T) T.ne_Family (hr.mono (by decide))) (pe_op (op_binO (own_Family_sub T) T.sf_Family hr) (pv 0) (pe_op (op_binO (own_Family_or T) T.sf_Family hr) (pv 1) (pv 2))) (pe_op (op_binO (own_Family_sub T) T.sf_Family hr) (pe_op (op_binO (own_Family_sub T) T.sf_Family hr) (pv 0) (pv 1)) (pv 2)) (nomark _)) (pw_or1 (pt_cmpR (op_neO (own_Family_eq T) T.ne_Family (hr.mono (by decide))) (pe_op (op_binO (own_Family_and T) T.sf_Family hr) (pe_op (op_binO (own_Family_sub T) T.sf_Family hr) (pv 0) (pv 1)) (pv 1)) (pe_make T.mk_Family (ok_Family_init T) (hr.mono (by decide)) rfl T.g_Family T.b_Family_init .nil pass0 (pa_cons (pe_lst pa_nil) pa_nil)) (nomark _)))))
 (pss_one (ps_ret pe_bl))
 pss_nil)
 (pss_one (ps_ret (pe_and (pe_cmpR (op_eqO (own_Family_eq T) (hr.mono (by decide))) (pe_op (op_binO (own_Family_or T) T.sf_Family hr) (pe_op (op_binO (own_Family_and T) T.sf_Family hr) (pv 0) (pv 1)) (pe_op (op_binO (own_Family_sub T) T.sf_Family hr) (pv 0) (pv 1))) (pv 0) (nomark _)) (pe_and (pe_meth (pv 0) T.cl_Family T.m_Family_is_within (ok_Family_is_within T) (hr.mono (by decide)) T.b_Family_is_within .nil pass0 (pa_cons (pe_op (op_binO (own_Family_or T) T.sf_Family hr) (pv 0) (pv 2)) pa_nil)) (pe_one (pe_meth (pe_op (op_binO (own_Family_and T) T.sf_Family hr) (pv 0) (pv 2)) T.cl_Family T.m_Family_is_within (ok_Family_is_within T) (hr.mono (by decide)) T.b_Family_is_within .nil pass0 (pa_cons (pv 2) pa_nil)))))))))), ?_⟩
    try simp only [cxK]
    lcg_off
    refine ifF (tT (fam_congr fun w hw => ?_)) ?_
    · simp only [mem_gAnd, mem_fam, hw, List.mem_append, true_and]
      by_cases c1 : w ∈ x <;> by_cases c2 : w ∈ y <;> by_cases c3 : w ∈ z <;> simp [c1, c2, c3]
    lcg_off
    refine ifF (tT (fam_congr fun w hw => ?_)) ?_
    · simp only [mem_gAnd, mem_fam, hw, List.mem_append, true_and]
      by_cases c1 : w ∈ x <;> by_cases c2 : w ∈ y <;> by_cases c3 : w ∈ z <;> simp [c1, c2, c3]
    rename_i _ H2 _ _ _
    have s2 : Same H H2 := by kpt_turns
    have h12 := h1.mono s2
    have h22 := h2.mono s2
    have h32 := h3.mono s2
    have k2 : ∀ H', Same H2 H' → Q (.bl true) H' := fun H' s => k H' (s2.trans s)
    clear k h1 h2 h3
    lcg_off
    refine ifF (tT (fam_congr fun w hw => ?_)) ?_
    · simp only [mem_gSub, mem_fam, hw, List.mem_append, true_and]
      by_cases c1 : w ∈ x <;> by_cases c2 : w ∈ y <;> by_cases c3 : w ∈ z <;> simp [c1, c2, c3]
    lcg_off
    intro L hL
    lcg_off
    refine make_fam (ws := []) upd_same (fun w h => by cases h) fun r H3 s3 hr3 hF => ?_
    lcg_off
    refine ifF (tT (fam_congr fun w hw => ?_)) ?_
    · simp only [mem_gSub, mem_gAnd, mem_fam, hw, List.mem_append, true_and]
      by_cases c1 : w ∈ x <;> by_cases c2 : w ∈ y <;> simp [c1, c2]
    lcg_off
    refine ifT (decide_eq_true (fam_congr fun w hw => ?_)) ?_
    · simp only [mem_gSub, mem_gAnd, mem_fam, hw, List.mem_append, true_and]
      by_cases c1 : w ∈ x <;> by_cases c2 : w ∈ y <;> simp [c1, c2]
    lcg_off
    refine methF (x := fam x) (by lcg_sub) (by decide +kernel) ?_
    lcg_off
    refine ⟨_, _, _, _, rfl, by lcg_sub, by lcg_sub, fam_len _, fun H9 s9 => ?_⟩
    rw [within_true (fun w hw => mem_fam.mpr ⟨fam_sub hw, List.mem_append_left _ hw⟩)]
    lcg_off
    refine iteT ?_
    lcg_off
    refine methF (by assumption) (by decide +kernel) ?_
    lcg_off
    refine ⟨_, _, _, _, rfl, by lcg_sub, by lcg_sub, fam_len _, fun Ha sa => ?_⟩
    rw [within_true (fun w hw => (mem_gAnd.mp (mem_fam.mp hw).2).2)]
    exact k2 _ (by kpt_turns)
end
end K87

namespace K87
open PySem L2 Hk
local macro_rules | `(tactic| array_mem_dec) => `(tactic| with_reducible first
  | assumption | exact upd_same
  | (apply upd_new; assumption; array_mem_dec)
  | (apply upd_old; tlg_ne; array_mem_dec)
  | (apply same_at; assumption; array_mem_dec))
local macro_rules | `(tactic| tlg_ne) => `(tactic| with_reducible first
  | assumption | (apply Ne.symm; assumption)
  | (apply ne_new; assumption; array_mem_dec) | (apply ne_new'; assumption; array_mem_dec)
  | (apply ne_of; assumption; assumption; (with_unfolding_all (intro z; cases z; done))))
local macro_rules | `(tactic| decreasing_trivial_pre_omega) => `(tactic| with_reducible first
  | assumption | (apply sqL_of; array_mem_dec) | (apply sqT_of; array_mem_dec)
  | (apply Same.seq; assumption; decreasing_trivial_pre_omega) | (apply sqT_same; assumption; decreasing_trivial_pre_omega)
  | (apply sqL_new; assumption; decreasing_trivial_pre_omega) | (apply sqL_upd; tlg_ne; decreasing_trivial_pre_omega))
local macro_rules | `(tactic| kpt_turns) => `(tactic| with_reducible first
  | assumption | exact Same.refl _ | (apply same_ext; kpt_turns; assumption) | (apply same_mut; kpt_turns; keq_hits) | (apply same_step; assumption; kpt_turns))
local macro_rules | `(tactic| keq_hits) => `(tactic| with_reducible first | assumption | (apply same_none; assumption; keq_hits))
local macro_rules | `(tactic| sizeOf_list_dec) => `(tactic| first | (with_reducible assumption) | (with_reducible_and_instances omega) | (with_unfolding_all decide))
local macro_rules | `(tactic| array_get_dec) => `(tactic| first | (with_reducible assumption) | (apply sz_of; (with_unfolding_all simp); done) | (apply sz_of; omega) | (apply sz_lt; (with_unfolding_all simp); done) | (apply sz_lt; omega))
local macro_rules | `(tactic| keq_rows) => `(tactic| with_reducible first
  | apply rd_asgN | apply rd_seq | apply rd_parA | apply rd_par3A | apply rd_par2 | apply rd_par3 | apply rd_m1 | apply rd_isStr | apply rd_cval | apply rd_asg | apply rd_gname | apply rd_op | (show tVar _ _ _ _; refine rd_var (by with_unfolding_all rfl) ?_) | apply rd_c | apply rd_I0
  | apply rd_cons | apply rd_nil | apply rd_cb | apply rd_test | apply rd_bl | apply rd_fld | apply rd_drop | apply rd_ret | apply rd_retN | apply rd_next
  | apply rd_ifS | apply rd_un | apply rd_B | apply rd_and | apply rd_or | apply rd_not | apply rd_andV | apply rd_orV | apply rd_notV | apply rd_if
  | apply rd_int | apply rd_abs | apply rd_max | apply rd_min | apply rd_strS | apply rd_U
  | apply rd_eqTx | apply rd_neTx | apply rd_inTx | apply rd_notInTx | apply rd_fmt | (show FmtK (.str (tx _)) _ _; refine rd_fmtT (by omega) ?_) | apply rd_jsC | apply rd_jsN | (show JsK _ (tx _) _ (.str (tx _)) _ _; refine rd_JsK (by first | omega | (simp; done) | (simp; omega)) ?_) | (show rAddStr (.str (tx _)) (.str (tx _)) _ _; refine rd_addT (by first | omega | (simp; done) | (simp; omega)) ?_) | (show rLenStr [.str (tx _)] _ _; refine rd_lenTx (by omega) ?_)
  | (show rEq _ _ _ _; refine rd_eq (by with_unfolding_all rfl) ?_) | (show rNe _ _ _ _; refine rd_ne (by with_unfolding_all rfl) ?_) | apply rd_isNone | apply rd_notNone
  | (show rIxL _ _ _ _ _; refine rd_ixL (by decreasing_trivial_pre_omega) (by with_unfolding_all rfl) ?_) | (show rIxT _ _ _ _ _; refine rd_ixT (by decreasing_trivial_pre_omega) (by with_unfolding_all rfl) ?_)
  | (show rLenSeq _ _ _ _; refine rd_lenL (by decreasing_trivial_pre_omega) ?_) | (show rLenSeq _ _ _ _; refine rd_lenT (by decreasing_trivial_pre_omega) ?_)
  | (show rI _ _ _ _ _ _; refine rd_mod (by sizeOf_list_dec) ?_) | (show rI _ _ _ _ _ _; refine rd_div (by sizeOf_list_dec) (by sizeOf_list_dec) ?_) | (show rI _ _ _ _ _ _; refine rd_mulR (by sizeOf_list_dec) (by sizeOf_list_dec) ?_) | (show rI _ _ _ _ _ _; refine rd_mulL (by sizeOf_list_dec) (by sizeOf_list_dec) ?_) | (show rI _ _ _ _ _ _; refine rd_pow (by sizeOf_list_dec) ?_)
  | (show rSetL _ _ _ _ _; refine rd_setL (by array_mem_dec) (by with_unfolding_all rfl) ?_)
  | (show rSlL _ _ _ _ _ _; refine rd_slL (by decreasing_trivial_pre_omega) ?_) | apply rd_inSign | apply rd_notInSign | apply rd_tup | apply rd_lst | apply rd_sl | apply rd_noPart | apply rd_part | apply rd_isInt
  | apply rd_gsub | apply rd_gcons | apply rd_gnil | apply rd_call | apply rd_meth | apply rd_make | apply rd_smeth | apply rd_isC | apply rd_smethK | apply rd_cmeth | apply rd_cmethK
  | apply rd_bm | apply rd_bm0 | (show BmK _ _ _ _ _ _ _ _; refine rd_bmL (by array_mem_dec) ?_) | (show Bm0K _ _ _ _ _ _; refine rd_bm0L (by array_mem_dec) ?_) | apply rd_sfld | apply rd_aug | apply rd_rAdd | apply rd_brk | apply rd_cont
  | apply rd_for | apply rd_iList | (show IList _ _ _ _; refine rd_IList (by decreasing_trivial_pre_omega) ?_) | apply rd_iTup | (show ITup _ _ _ _; refine rd_ITup (by decreasing_trivial_pre_omega) ?_) | apply rd_iEnum | (show IEnum _ _ _ _; refine rd_IEnum (by decreasing_trivial_pre_omega) ?_) | apply rd_iRng1 | (show IRng1 _ _ _; refine rd_IRng1 (by sizeOf_list_dec) (by sizeOf_list_dec) ?_)
  | (show List.length _ ≤ sizeLine ∧ _; refine rd_new (by array_get_dec) ?_) | (show rLenStr _ _ _; refine rd_lenS (by array_get_dec) ?_) | (show rAddStr _ _ _ _; refine rd_addS (by array_get_dec) ?_) | (show rSlS _ _ _ _ _; refine rd_slS (by array_get_dec) ?_) | apply rd_lc | apply rd_yes | (show gTup _ _ _ _ _ _ _; refine rd_gtup (by decreasing_trivial_pre_omega) (by with_unfolding_all rfl) ?_) | (show tMakeL _ _ _ _ _ _ _ _; refine rd_makeL (by with_unfolding_all rfl) ?_))
local macro_rules | `(tactic| kas_types) => `(tactic| with_reducible first | apply rd_isi_int_int | apply rd_isi_int_bool | apply rd_isi_int_str | apply rd_isi_int_list | apply rd_isi_int_tuple | apply rd_isi_bool_int | apply rd_isi_bool_bool | apply rd_isi_bool_str | apply rd_isi_bool_list | apply rd_isi_bool_tuple | apply rd_isi_str_int | apply rd_isi_str_bool | apply rd_isi_str_str | apply rd_isi_str_list | apply rd_isi_str_tuple | (show rIsi _ _ _ _; refine rd_isi_list_int (by array_mem_dec) ?_) | (show rIsi _ _ _ _; refine rd_isi_list_bool (by array_mem_dec) ?_) | (show rIsi _ _ _ _; refine rd_isi_list_str (by array_mem_dec) ?_) | (show rIsi _ _ _ _; refine rd_isi_list_list (by array_mem_dec) ?_) | (show rIsi _ _ _ _; refine rd_isi_list_tuple (by array_mem_dec) ?_) | (show rIsi _ _ _ _; refine rd_isi_tuple_int (by array_mem_dec) ?_) | (show rIsi _ _ _ _; refine rd_isi_tuple_bool (by array_mem_dec) ?_) | (show rIsi _ _ _ _; refine rd_isi_tuple_str (by array_mem_dec) ?_) | (show rIsi _ _ _ _; refine rd_isi_tuple_list (by array_mem_dec) ?_) | (show rIsi _ _ _ _; refine rd_isi_tuple_tuple (by array_mem_dec) ?_) | apply rd_isi_NoneType_int | apply rd_isi_NoneType_bool | apply rd_isi_NoneType_str | apply rd_isi_NoneType_list | apply rd_isi_NoneType_tuple)
local macro_rules | `(tactic| lcg_src) => `(tactic| repeat keq_rows)

/-- a family that stands -/
local macro_rules | `(tactic| lcg_sub) => `(tactic| first | assumption | (refine FamAt.mono ?_ (by assumption); kpt_turns))
local macro_rules | `(tactic| lcg_off) => `(tactic| repeat (first | keq_rows | (with_reducible refine ask_bin (by lcg_sub) (by lcg_sub) fun _ _ _ _ _ => ?_) | (with_reducible refine ask_eq (by lcg_sub) (by lcg_sub) ?_) | (with_reducible refine ask_ne (by lcg_sub) (by lcg_sub) ?_) | (with_reducible refine ask_len (by lcg_sub) ?_)))
section
variable {P : Program} {w : World} {K : PySem.W.Frag} {mg : Str → Option Value} {base : Heap} {a : Ad} {H : Hp}
def sp_law (K : PySem.W.Frag) : Sp := fun vs H Q _ => ∃ (sc : Addr) (ns : List Int), vs = [.ref sc] ∧ SqL K H sc (ns.map V.int) ∧ ns.length ≤ 63 ∧ ∀ H', Q (.bl true) H'
theorem cut1 (xs : List (List Nat)) : cutV (xs.map wd) (some 1) none = (xs.drop 1).map wd := by
  cases xs with
  | nil => rfl
  | cons x xs =>
    unfold cutV
    have e1 : HT.sIx ((x :: xs).map wd).length 0 (some 1) = 1 := sIx_nat (i := 1) (by simp)
    have e2 : HT.sIx ((x :: xs).map wd).length ((x :: xs).map wd).length none = ((x :: xs).map wd).length := rfl
    rw [e1, e2]
    simp
    exact List.take_of_length_le (by simp)
theorem notFam_lst {K : PySem.W.Frag} {mg : Str → Option Value} {a : Ad} {H : Hp} {p : Addr} {xs : List V} (T : Txt K mg a) (h : H p = some (.lst xs)) : NotFam K a H (.ref p) := ⟨"list", .lst h, T.ns_Family_list⟩
theorem notFam_tup {K : PySem.W.Frag} {mg : Str → Option Value} {a : Ad} {H : Hp} {p : Addr} {xs : List V} (T : Txt K mg a) (h : H p = some (.tup xs)) : NotFam K a H (.ref p) := ⟨"tuple", .tup h, T.ns_Family_tuple⟩
theorem notFam_str {K : PySem.W.Frag} {mg : Str → Option Value} {a : Ad} {H : Hp} {z : Str} (T : Txt K mg a) : NotFam K a H (.str z) := ⟨"str", .str z, T.ns_Family_str⟩
theorem notFam_int {K : PySem.W.Frag} {mg : Str → Option Value} {a : Ad} {H : Hp} {z : Int} (T : Txt K mg a) : NotFam K a H (.int z) := ⟨"int", .int z, T.ns_Family_int⟩
theorem notFam_non {K : PySem.W.Frag} {mg : Str → Option Value} {a : Ad} {H : Hp} (T : Txt K mg a) : NotFam K a H .non := ⟨"NoneType", .non, T.ns_Family_NoneType⟩
theorem ok_law (T : Txt K mg a) : FnOk P w K mg base CX0 5 a.f_law a.fd_law ["_law_script"]  (sp_law K) := by
  refine T.F_law.ok sc_law (fun vs H Q E h => ?_) (fun cdv A outer s H vs Q E hr h => ?_)
  · obtain ⟨_, _, rfl, _⟩ := h
    rfl
  · obtain ⟨sc, ns, rfl, hS, hl, k⟩ := h
    refine ⟨_, ((pss_cons (ps_for PassesOwn.never rfl (pi_range1 rfl T.n_range (pa_cons (pe_callB (call_maxI rfl) (by rfl) T.n_max (by decide +kernel) (pa_cons pe_int (pa_cons (pe_callB (call_minI rfl) (by rfl) T.n_min (by decide +kernel) (pa_cons pe_int (pa_cons (pe_callB call_lenSeq (by rfl) T.n_len (by decide +kernel) (pa_cons (pv 0) pa_nil)) pa_nil))) pa_nil))) pa_nil)) (pg_name (i := 1) sc_law.nd rfl (Or.inl rfl))
 (pss_cons (ps_set (i := 2) sc_law.nd rfl (Or.inl rfl) (pe_call (ok_law_bag T) (hr.mono (by decide)) rfl T.g_law_bag T.F_law_bag.kp T.b_law_bag .nil pass0 (pa_cons (pv 0) (pa_cons (pv 1) pa_nil))))
 (pss_one (ps_for PassesOwn.never rfl (pi_range1 rfl T.n_range (pa_cons pe_int pa_nil)) (pg_name (i := 3) sc_law.nd rfl (Or.inl rfl))
 (pss_cons (ps_par (i := 4) (j := 5) (by rfl) sc_law.nd rfl rfl (by decide) rfl rfl (pa_cons (pe_call (ok_law_some T) (hr.mono (by decide)) rfl T.g_law_some T.F_law_some.kp T.b_law_some .nil pass0 (pa_cons (pv 2) pa_nil)) (pa_cons (pe_call (ok_law_some T) (hr.mono (by decide)) rfl T.g_law_some T.F_law_some.kp T.b_law_some .nil pass0 (pa_cons (pv 2) pa_nil)) pa_nil)) (by rfl))
 (pss_cons (ps_set (i := 5) sc_law.nd rfl (Or.inl rfl) (pe_call (ok_law_of T) (hr.mono (by decide)) rfl T.g_law_of T.F_law_of.kp T.b_law_of .nil pass0 (pa_cons (pv 2) (pa_cons (pe_lst (pa_cons (pv 5) (pa_cons (pv 5) (pa_cons (pe_callTy call_listOf (by rfl) T.n_list (by decide +kernel) (pa_cons (pv 4) pa_nil)) (pa_cons (pe_lst pa_nil) (pa_cons (pe_call0 (ok_law_licences T) (hr.mono (by decide)) rfl T.g_law_licences T.F_law_licences.kp T.b_law_licences .nil pass0) (pa_cons (pe_slice sl_list (pv 4) (po_some pe_int) po_none) pa_nil))))))) pa_nil))))
 (pss_cons (ps_par3 (i := 6) (j := 7) (l := 8) (by rfl) sc_law.nd rfl rfl rfl (by decide) (by decide) (by decide) rfl rfl rfl (pa_cons (pe_make T.mk_Family (ok_Family_init T) (hr.mono (by decide)) rfl T.g_Family T.b_Family_init .nil pass0 (pa_cons (pv 4) pa_nil)) (pa_cons (pe_make T.mk_Family (ok_Family_init T) (hr.mono (by decide)) rfl T.g_Family T.b_Family_init .nil pass0 (pa_cons (pv 5) pa_nil)) (pa_cons (pe_make T.mk_Family (ok_Family_init T) (hr.mono (by decide)) rfl T.g_Family T.b_Family_init .nil pass0 (pa_cons (pe_call (ok_law_some T) (hr.mono (by decide)) rfl T.g_law_some T.F_law_some.kp T.b_law_some .nil pass0 (pa_cons (pv 2) pa_nil)) pa_nil)) pa_nil))) (by rfl))
 (pss_cons (ps_if (PW.pt (pw_or (pt_not (pt_val (pe_call (ok_law_signs_right T) hr rfl T.g_law_signs_right T.F_law_signs_right.kp T.b_law_signs_right .nil pass0 (pa_cons (pv 6) (pa_cons (pv 7) (pa_cons (pv 4) (pa_cons (pv 5) pa_nil))))))) (pw_or1 (pt_not (pt_val (pe_call (ok_law_signs_right T) hr rfl T.g_law_signs_right T.F_law_signs_right.kp T.b_law_signs_right .nil pass0 (pa_cons (pv 7) (pa_cons (pv 6) (pa_cons (pv 5) (pa_cons (pv 4) pa_nil))))))))))
 (pss_one (ps_ret pe_bl))
 pss_nil)
 (pss_cons (ps_if (PW.pt (pw_or (pt_not (pt_val (pe_call (ok_law_three_right T) hr rfl T.g_law_three_right T.F_law_three_right.kp T.b_law_three_right .nil pass0 (pa_cons (pv 6) (pa_cons (pv 7) (pa_cons (pv 8) pa_nil)))))) (pw_or1 (pt_not (pt_val (pe_call (ok_law_three_right T) hr rfl T.g_law_three_right T.F_law_three_right.kp T.b_law_three_right .nil pass0 (pa_cons (pv 8) (pa_cons (pv 6) (pa_cons (pv 7) pa_nil)))))))))
 (pss_one (ps_ret pe_bl))
 pss_nil)
 (pss_cons (ps_if (PW.pt (pw_or (pt_not (pt_val (pe_call (ok_law_has T) (hr.mono (by decide)) rfl T.g_law_has T.F_law_has.kp T.b_law_has .nil pass0 (pa_cons (pv 6) (pa_cons (pv 4) pa_nil))))) (pw_or1 (pt_not (pt_val (pe_call (ok_law_has T) (hr.mono (by decide)) rfl T.g_law_has T.F_law_has.kp T.b_law_has .nil pass0 (pa_cons (pv 7) (pa_cons (pv 5) pa_nil))))))))
 (pss_one (ps_ret pe_bl))
 pss_nil)
 (pss_one (ps_for PassesOwn.never rfl (pi_list (pe_lst (pa_cons (pv 4) (pa_cons (pe_callTy call_tupOf (by rfl) T.n_tuple (by decide +kernel) (pa_cons (pe_call (ok_law_sorted T) (hr.mono (by decide)) rfl T.g_law_sorted T.F_law_sorted.kp T.b_law_sorted .nil pass0 (pa_cons (pv 4) pa_nil)) pa_nil)) (pa_cons (pe_callB (call_reprO (own_Family_repr T) (hr.mono (by decide))) (by rfl) T.n_repr (by decide +kernel) (pa_cons (pv 6) pa_nil)) (pa_cons pe_non (pa_cons pe_int (pa_cons (pe_callB (call_lenO (own_Family_len T) (hr.mono (by decide))) (by rfl) T.n_len (by decide +kernel) (pa_cons (pv 6) pa_nil)) pa_nil)))))))) (pg_name (i := 9) sc_law.nd rfl (Or.inl rfl))
 (pss_one (ps_if (PW.pt (pw_or (pt_cmpR (op_eqO (own_Family_eq T) (hr.mono (by decide))) (pv 6) (pv 9) (nomark _)) (pw_or1 (pt_not (pt_cmpR (op_neO (own_Family_eq T) T.ne_Family (hr.mono (by decide))) (pv 6) (pv 9) (nomark _))))))
 (pss_one (ps_ret pe_bl))
 pss_nil))))))))))))))
 (pss_one (ps_ret pe_bl)))), ?_⟩
    try simp only [cxK]
    lcg_off
    have hr5 : ∀ z : Int, z = (if (if (ns.map V.int).length < (4 : Int) then ((ns.map V.int).length : Int) else 4) > 1 then (if (ns.map V.int).length < (4 : Int) then ((ns.map V.int).length : Int) else 4) else 1) → 1 ≤ z ∧ z ≤ 4 := fun z hz => by
      split at hz <;> (try split at hz) <;> omega
    obtain ⟨hz1, hz5⟩ := hr5 _ rfl
    generalize (if (if (ns.map V.int).length < (4 : Int) then ((ns.map V.int).length : Int) else 4) > 1 then (if (ns.map V.int).length < (4 : Int) then ((ns.map V.int).length : Int) else 4) else 1) = z at hz1 hz5
    refine fk_range (fun i σ H2 => Same H H2 ∧ ∃ u1 u2 u3 u4 u5 u6 u7 u8 u9 : Option V, σ = [some (.ref sc), u1, u2, u3, u4, u5, u6, u7, u8, u9]) ⟨Same.refl _, _, _, _, _, _, _, _, _, _, rfl⟩ ?_ ?_
    · rintro i σ H2 hi ⟨s2, u1, u2, u3, u4, u5, u6, u7, u8, u9, rfl⟩
      lcg_off
      refine ⟨sc, ns, _, rfl, s2.seq hS, by omega, by omega, hl, fun b d m H3 s3 hb hb3 => ?_⟩
      lcg_off
      refine fk_range (fun j σ H4 => Same H2 H4 ∧ ∃ (d m : Int) (u3 u4 u5 u6 u7 u8 u9 : Option V), H4 b = some (.lst [.int d, .int m]) ∧ σ = [some (.ref sc), some (.int (i : Nat)), some (.ref b), u3, u4, u5, u6, u7, u8, u9]) ⟨s3, d, m, _, _, _, _, _, _, _, hb3, rfl⟩ ?_ ?_
      · rintro j σ H4 hj ⟨s4, d, m, u3, u4, u5, u6, u7, u8, u9, hb4, rfl⟩
        lcg_off
        refine ⟨b, d, m, rfl, hb4, fun p1 w1 H5 d5 m5 hw1 hl1 hp1 k5 hb5 hp5 => ?_⟩
        lcg_off
        refine ⟨b, d5, m5, rfl, hb5, fun p2 w2 H6 d6 m6 hw2 hl2 hp2 k6 hb6 hp6 => ?_⟩
        have n1 : p1 ≠ b := ne_new' hp1 hb4
        have np2 : p2 ≠ b := ne_new' hp2 hb5
        have hp16 : H6 p1 = some (.lst (w1.map wd)) := k6 p1 _ n1 hp5
        have s6 : Same H2 H6 := fun c o e => k6 c o (ne_of_none e hb) (k5 c o (ne_of_none e hb) (s4 c o e))
        clear k5 k6 hb4 hb5 hp5 s4 hp1 hp2
        lcg_off
        refine rd_listL (sqL_of hp16) fun l1 hl1' => ?_
        lcg_off
        intro l2 hl2'
        lcg_off
        refine ⟨rfl, fun l3 hl3' => ?_⟩
        lcg_off
        intro l4 hl4'
        rw [cut1]
        lcg_off
        intro l5 hl5'
        lcg_off
        refine ⟨b, l5, d6, m6, _, rfl, by array_mem_dec, sqL_of upd_same, ne_new' hl5' (by array_mem_dec), by simp, by simp, fun x d7 m7 hx => ?_⟩
        have n5 : l5 ≠ b := ne_new' hl5' (by array_mem_dec)
        have n4 : l4 ≠ b := ne_new' hl4' (by array_mem_dec)
        have n3 : l3 ≠ b := ne_new' hl3' (by array_mem_dec)
        have n2 : l2 ≠ b := ne_new' hl2' (by array_mem_dec)
        have n0 : l1 ≠ b := ne_new' hl1' (by array_mem_dec)
        have hx' : ∃ (q : Addr) (w : List (List Nat)), x = .ref q ∧ q ≠ b ∧ upd (upd (upd (upd (upd (upd H6 l1 (.lst (w1.map wd))) l2 (.lst [])) l3 (.lst (LICS.map wd))) l4 (.lst ((w1.drop 1).map wd))) l5 (.lst [.ref p2, .ref p2, .ref l1, .ref l2, .ref l3, .ref l4])) b (.lst [.int d7, .int m7]) q = some (.lst (w.map wd)) ∧ (∀ v ∈ w, v ∈ LICS) ∧ w.length ≤ 20 := by
          simp only [List.mem_cons, List.not_mem_nil, or_false] at hx
          rcases hx with rfl | rfl | rfl | rfl | rfl | rfl
          · exact ⟨p2, w2, rfl, np2, by array_mem_dec, hw2, hl2⟩
          · exact ⟨p2, w2, rfl, np2, by array_mem_dec, hw2, hl2⟩
          · exact ⟨l1, w1, rfl, n0, by array_mem_dec, hw1, hl1⟩
          · exact ⟨l2, [], rfl, n2, by rw [List.map_nil]; array_mem_dec, by simp, by simp⟩
          · exact ⟨l3, LICS, rfl, n3, by array_mem_dec, fun _ h => h, by decide⟩
          · exact ⟨l4, w1.drop 1, rfl, n4, by array_mem_dec, fun v h => hw1 v (List.mem_of_mem_drop h), by simp; omega⟩
        obtain ⟨q, v2, rfl, nq, hq7, hv2, hv2l⟩ := hx'
        lcg_off
        refine make_fam (ws := w1) (by array_mem_dec) hw1 fun f1 H8 s8 hf1 hF1 => ?_
        have hb8 : H8 b = some (.lst [.int d7, .int m7]) := s8 _ _ upd_same
        have hp8 : H8 p1 = some (.lst (w1.map wd)) := s8 _ _ (by array_mem_dec)
        have hq8 : H8 q = some (.lst (v2.map wd)) := s8 _ _ hq7
        have s28 : Same H2 H8 := by
          refine Same.trans ?_ s8
          refine same_mut ?_ hb
          refine (((((s6.trans (same_new hl1')).trans (same_new hl2')).trans (same_new hl3')).trans (same_new hl4')).trans (same_new hl5'))
        clear s8 hq7 hl1' hl2' hl3' hl4' hl5' s6 hp16 hp6 hb6 hf1 hx n5 n4 n3 n2 n0
        lcg_off
        refine make_fam (ws := v2) hq8 hv2 fun f2 H9 s9 hf2 hF2 => ?_
        have hb9 := s9 _ _ hb8
        lcg_off
        refine ⟨b, d7, m7, rfl, hb9, fun p3 w3 H10 d10 m10 hw3 hl3 hp3 k10 hb10 hp10 => ?_⟩
        have hF1' : FamAt a H10 f1 (fam w1) := (hF1.mono s9).keep hb9 k10
        have hF2' : FamAt a H10 f2 (fam v2) := hF2.keep hb9 k10
        have hp1' : H10 p1 = some (.lst (w1.map wd)) := k10 _ _ n1 (s9 _ _ hp8)
        have hq' : H10 q = some (.lst (v2.map wd)) := k10 _ _ nq (s9 _ _ hq8)
        have s210 : Same H2 H10 := fun c o e => k10 c o (ne_of_none e hb) (s9 c o (s28 c o e))
        clear hF1 hF2 hp8 hq8 hb8 hb9 s28 s9 k10
        lcg_off
        refine make_fam (ws := w3) hp10 hw3 fun f3 H11 s11 hf3 hF3 => ?_
        lcg_off
        refine ⟨f1, f2, p1, q, w1, v2, rfl, by lcg_sub, by lcg_sub, by array_mem_dec, by array_mem_dec, hw1, hv2, hl1, hv2l, fun H12 s12 => ?_⟩
        lcg_off
        refine iteF ?_
        lcg_off
        refine ⟨f2, f1, q, p1, v2, w1, rfl, by lcg_sub, by lcg_sub, by array_mem_dec, by array_mem_dec, hv2, hw1, hv2l, hl1, fun H13 s13 => ?_⟩
        lcg_off
        refine ifF rfl ?_
        lcg_off
        refine ⟨f1, f2, f3, w1, v2, w3, rfl, by lcg_sub, by lcg_sub, by lcg_sub, fun H14 s14 => ?_⟩
        lcg_off
        refine iteF ?_
        lcg_off
        refine ⟨f3, f1, f2, w3, w1, v2, rfl, by lcg_sub, by lcg_sub, by lcg_sub, fun H15 s15 => ?_⟩
        lcg_off
        refine ifF rfl ?_
        lcg_off
        refine ⟨f1, p1, w1, w1, rfl, by lcg_sub, by array_mem_dec, hw1, fun H16 s16 => ?_⟩
        lcg_off
        refine ifF (by simp) ?_
        lcg_off
        refine ⟨f2, q, v2, v2, rfl, by lcg_sub, by array_mem_dec, hv2, fun H17 s17 => ?_⟩
        lcg_off
        refine ifF (by simp) ?_
        lcg_off
        refine ⟨p1, w1, rfl, sqL_of (by array_mem_dec), fun D H18 hD s18 h18 => ?_⟩
        lcg_off
        refine rd_tupL (sqL_of h18) fun tp htp => ?_
        lcg_off
        refine ask_repr (by lcg_sub) fun z => ?_
        lcg_off
        intro L hL
        lcg_off
        refine fk_list (xs := [.ref p1, .ref tp, .str z, .non, .int 0, .int ((fam w1).length : Nat)]) (fun i9 σ H20 => Same (upd (upd H18 tp (.tup ((fam w1).map wd))) L (.lst [.ref p1, .ref tp, .str z, .non, .int 0, .int ((fam w1).length : Nat)])) H20 ∧ ∃ u9 : Option V, σ = [some (.ref sc), some (.int (i : Nat)), some (.ref b), some (.int (j : Nat)), some (.ref p1), some (.ref q), some (.ref f1), some (.ref f2), some (.ref f3), u9])
          ⟨Same.refl _, _, rfl⟩ (fun i9 σ H20 _ ⟨s20, _⟩ => sqL_of (s20 _ _ upd_same)) ?_ ?_
        · rintro i9 x σ H20 hx ⟨s20, u9, rfl⟩
          have hF : FamAt a H20 f1 (fam w1) := by lcg_sub
          have hn : NotFam K a H20 x := by
            have hm := List.mem_of_getElem? hx
            simp only [List.mem_cons, List.not_mem_nil, or_false] at hm
            rcases hm with rfl | rfl | rfl | rfl | rfl | rfl
            · exact notFam_lst T (show H20 p1 = some (.lst (w1.map wd)) by array_mem_dec)
            · exact notFam_tup T (show H20 tp = some (.tup ((fam w1).map wd)) by array_mem_dec)
            · exact notFam_str T
            · exact notFam_non T
            · exact notFam_int T
            · exact notFam_int T
          lcg_off
          refine ask_eqN hF hn ?_
          lcg_off
          refine iteF ?_
          lcg_off
          refine ask_neN hF hn ?_
          lcg_off
          refine ifF rfl ?_
          lcg_off
          exact ⟨s20, _, rfl⟩
        · rintro σ H20 ⟨s20, u9, rfl⟩
          have hb20 : H20 b = some (.lst [.int d10, .int m10]) := by array_mem_dec
          have s220 : Same H2 H20 := by kpt_turns
          lcg_off
          exact ⟨s220, d10, m10, _, _, _, _, _, _, _, hb20, rfl⟩
      · rintro σ H4 ⟨s4, d, m, u3, u4, u5, u6, u7, u8, u9, hb4, rfl⟩
        exact ⟨s2.trans s4, _, _, _, _, _, _, _, _, _, rfl⟩
    · rintro σ H2 ⟨s2, u1, u2, u3, u4, u5, u6, u7, u8, u9, rfl⟩
      lcg_off
      exact k H2
end
end K87

section
open PySem PySem.W PyProof.Rows
set_option maxHeartbeats 0 in
open_top hd for PySem.Challenge.rw_heirsback_k87_families_joined
end
namespace K87
open PySem L2 Hk
theorem all_mk {l : PySem.W.OpenLaw} {w : World} {K : PySem.W.Frag} {h : Heap} {mg : Str → Option Value} {fa : Addr} (X : K.In h) (G : h.Ns mainGlobals mg) (hfa : mg "law" = some (.ref fa))
    {f_Family_init : Addr} {od_Family_init an_Family_init : Option Addr} {sl_Family_init : Array (Option Value)} {oc_Family_init kV_Family_init dc_Family_init pm_Family_init cd_Family_init ct_Family_init : Value}
    {f_Family_is_within : Addr} {od_Family_is_within an_Family_is_within : Option Addr} {sl_Family_is_within : Array (Option Value)} {oc_Family_is_within kV_Family_is_within dc_Family_is_within pm_Family_is_within cd_Family_is_within ct_Family_is_within : Value}
    {f_Family_and : Addr} {od_Family_and an_Family_and : Option Addr} {sl_Family_and : Array (Option Value)} {oc_Family_and kV_Family_and dc_Family_and pm_Family_and cd_Family_and ct_Family_and : Value}
    {f_Family_or : Addr} {od_Family_or an_Family_or : Option Addr} {sl_Family_or : Array (Option Value)} {oc_Family_or kV_Family_or dc_Family_or pm_Family_or cd_Family_or ct_Family_or : Value}
    {f_Family_sub : Addr} {od_Family_sub an_Family_sub : Option Addr} {sl_Family_sub : Array (Option Value)} {oc_Family_sub kV_Family_sub dc_Family_sub pm_Family_sub cd_Family_sub ct_Family_sub : Value}
    {f_Family_len : Addr} {od_Family_len an_Family_len : Option Addr} {sl_Family_len : Array (Option Value)} {oc_Family_len kV_Family_len dc_Family_len pm_Family_len cd_Family_len ct_Family_len : Value}
    {f_Family_eq : Addr} {od_Family_eq an_Family_eq : Option Addr} {sl_Family_eq : Array (Option Value)} {oc_Family_eq kV_Family_eq dc_Family_eq pm_Family_eq cd_Family_eq ct_Family_eq : Value}
    {f_Family_repr : Addr} {od_Family_repr an_Family_repr : Option Addr} {sl_Family_repr : Array (Option Value)} {oc_Family_repr kV_Family_repr dc_Family_repr pm_Family_repr cd_Family_repr ct_Family_repr : Value}
    {f_law_bag : Addr} {od_law_bag an_law_bag : Option Addr} {sl_law_bag : Array (Option Value)} {oc_law_bag kV_law_bag dc_law_bag pm_law_bag cd_law_bag ct_law_bag : Value}
    {f_law_take : Addr} {od_law_take an_law_take : Option Addr} {sl_law_take : Array (Option Value)} {oc_law_take kV_law_take dc_law_take pm_law_take cd_law_take ct_law_take : Value}
    {f_law_of : Addr} {od_law_of an_law_of : Option Addr} {sl_law_of : Array (Option Value)} {oc_law_of kV_law_of dc_law_of pm_law_of cd_law_of ct_law_of : Value}
    {f_law_licences : Addr} {od_law_licences an_law_licences : Option Addr} {sl_law_licences : Array (Option Value)} {oc_law_licences kV_law_licences dc_law_licences pm_law_licences cd_law_licences ct_law_licences : Value}
    {f_law_some : Addr} {od_law_some an_law_some : Option Addr} {sl_law_some : Array (Option Value)} {oc_law_some kV_law_some dc_law_some pm_law_some cd_law_some ct_law_some : Value}
    {f_law_sorted : Addr} {od_law_sorted an_law_sorted : Option Addr} {sl_law_sorted : Array (Option Value)} {oc_law_sorted kV_law_sorted dc_law_sorted pm_law_sorted cd_law_sorted ct_law_sorted : Value}
    {f_law_has : Addr} {od_law_has an_law_has : Option Addr} {sl_law_has : Array (Option Value)} {oc_law_has kV_law_has dc_law_has pm_law_has cd_law_has ct_law_has : Value}
    {f_law_signs_right : Addr} {od_law_signs_right an_law_signs_right : Option Addr} {sl_law_signs_right : Array (Option Value)} {oc_law_signs_right kV_law_signs_right dc_law_signs_right pm_law_signs_right cd_law_signs_right ct_law_signs_right : Value}
    {f_law_three_right : Addr} {od_law_three_right an_law_three_right : Option Addr} {sl_law_three_right : Array (Option Value)} {oc_law_three_right kV_law_three_right dc_law_three_right pm_law_three_right cd_law_three_right ct_law_three_right : Value}
    {f_law : Addr} {od_law an_law : Option Addr} {sl_law : Array (Option Value)} {oc_law kV_law dc_law pm_law cd_law ct_law : Value}
    {C_Family : Addr}
    {ad_Family_LICENCES : Addr} {od_Family_LICENCES : Option Addr} {n_Family_LICENCES : Nat} {sl_Family_LICENCES : Array (Option Value)} {t0_Family_LICENCES : Tok} {t1_Family_LICENCES : Tok} {t2_Family_LICENCES : Tok} {t3_Family_LICENCES : Tok} {t4_Family_LICENCES : Tok} {t5_Family_LICENCES : Tok} {t6_Family_LICENCES : Tok} {t7_Family_LICENCES : Tok} {t8_Family_LICENCES : Tok} {t9_Family_LICENCES : Tok}
    (a_C_Family : PySem.W.nsIn K mainGlobals "Family" = some (some (.ref C_Family)))
    (a_Family_init : PySem.W.findIn K (.ref C_Family) "__init__" = some (some (.ref f_Family_init)))
    (i_Family_init : PySem.W.isFn K (.ref f_Family_init) = true)
    (l_Family_init : K.lookup f_Family_init = some ⟨oc_Family_init, od_Family_init, .func (PySem.W.fnOf "__init__" "Family.__init__" (defArgs s_Family_init) (defBody s_Family_init) (defScope s_Family_init) .none kV_Family_init dc_Family_init pm_Family_init an_Family_init cd_Family_init ct_Family_init), sl_Family_init⟩)
    (c_Family_init : PySem.W.codeIn K cd_Family_init "Family.__init__" = true)
    (k_Family_init : PySem.W.keepIn K (.ref f_Family_init) = true)
    (a_Family_is_within : PySem.W.findIn K (.ref C_Family) "is_within" = some (some (.ref f_Family_is_within)))
    (i_Family_is_within : PySem.W.isFn K (.ref f_Family_is_within) = true)
    (l_Family_is_within : K.lookup f_Family_is_within = some ⟨oc_Family_is_within, od_Family_is_within, .func (PySem.W.fnOf "is_within" "Family.is_within" (defArgs s_Family_is_within) (defBody s_Family_is_within) (defScope s_Family_is_within) .none kV_Family_is_within dc_Family_is_within pm_Family_is_within an_Family_is_within cd_Family_is_within ct_Family_is_within), sl_Family_is_within⟩)
    (c_Family_is_within : PySem.W.codeIn K cd_Family_is_within "Family.is_within" = true)
    (k_Family_is_within : PySem.W.keepIn K (.ref f_Family_is_within) = true)
    (a_Family_and : PySem.W.findIn K (.ref C_Family) "__and__" = some (some (.ref f_Family_and)))
    (i_Family_and : PySem.W.isFn K (.ref f_Family_and) = true)
    (l_Family_and : K.lookup f_Family_and = some ⟨oc_Family_and, od_Family_and, .func (PySem.W.fnOf "__and__" "Family.__and__" (defArgs s_Family_and) (defBody s_Family_and) (defScope s_Family_and) .none kV_Family_and dc_Family_and pm_Family_and an_Family_and cd_Family_and ct_Family_and), sl_Family_and⟩)
    (c_Family_and : PySem.W.codeIn K cd_Family_and "Family.__and__" = true)
    (k_Family_and : PySem.W.keepIn K (.ref f_Family_and) = true)
    (a_Family_or : PySem.W.findIn K (.ref C_Family) "__or__" = some (some (.ref f_Family_or)))
    (i_Family_or : PySem.W.isFn K (.ref f_Family_or) = true)
    (l_Family_or : K.lookup f_Family_or = some ⟨oc_Family_or, od_Family_or, .func (PySem.W.fnOf "__or__" "Family.__or__" (defArgs s_Family_or) (defBody s_Family_or) (defScope s_Family_or) .none kV_Family_or dc_Family_or pm_Family_or an_Family_or cd_Family_or ct_Family_or), sl_Family_or⟩)
    (c_Family_or : PySem.W.codeIn K cd_Family_or "Family.__or__" = true)
    (k_Family_or : PySem.W.keepIn K (.ref f_Family_or) = true)
    (a_Family_sub : PySem.W.findIn K (.ref C_Family) "__sub__" = some (some (.ref f_Family_sub)))
    (i_Family_sub : PySem.W.isFn K (.ref f_Family_sub) = true)
    (l_Family_sub : K.lookup f_Family_sub = some ⟨oc_Family_sub, od_Family_sub, .func (PySem.W.fnOf "__sub__" "Family.__sub__" (defArgs s_Family_sub) (defBody s_Family_sub) (defScope s_Family_sub) .none kV_Family_sub dc_Family_sub pm_Family_sub an_Family_sub cd_Family_sub ct_Family_sub), sl_Family_sub⟩)
    (c_Family_sub : PySem.W.codeIn K cd_Family_sub "Family.__sub__" = true)
    (k_Family_sub : PySem.W.keepIn K (.ref f_Family_sub) = true)
    (a_Family_len : PySem.W.findIn K (.ref C_Family) "__len__" = some (some (.ref f_Family_len)))
    (i_Family_len : PySem.W.isFn K (.ref f_Family_len) = true)
    (l_Family_len : K.lookup f_Family_len = some ⟨oc_Family_len, od_Family_len, .func (PySem.W.fnOf "__len__" "Family.__len__" (defArgs s_Family_len) (defBody s_Family_len) (defScope s_Family_len) .none kV_Family_len dc_Family_len pm_Family_len an_Family_len cd_Family_len ct_Family_len), sl_Family_len⟩)
    (c_Family_len : PySem.W.codeIn K cd_Family_len "Family.__len__" = true)
    (k_Family_len : PySem.W.keepIn K (.ref f_Family_len) = true)
    (a_Family_eq : PySem.W.findIn K (.ref C_Family) "__eq__" = some (some (.ref f_Family_eq)))
    (i_Family_eq : PySem.W.isFn K (.ref f_Family_eq) = true)
    (l_Family_eq : K.lookup f_Family_eq = some ⟨oc_Family_eq, od_Family_eq, .func (PySem.W.fnOf "__eq__" "Family.__eq__" (defArgs s_Family_eq) (defBody s_Family_eq) (defScope s_Family_eq) .none kV_Family_eq dc_Family_eq pm_Family_eq an_Family_eq cd_Family_eq ct_Family_eq), sl_Family_eq⟩)
    (c_Family_eq : PySem.W.codeIn K cd_Family_eq "Family.__eq__" = true)
    (k_Family_eq : PySem.W.keepIn K (.ref f_Family_eq) = true)
    (a_Family_repr : PySem.W.findIn K (.ref C_Family) "__repr__" = some (some (.ref f_Family_repr)))
    (i_Family_repr : PySem.W.isFn K (.ref f_Family_repr) = true)
    (l_Family_repr : K.lookup f_Family_repr = some ⟨oc_Family_repr, od_Family_repr, .func (PySem.W.fnOf "__repr__" "Family.__repr__" (defArgs s_Family_repr) (defBody s_Family_repr) (defScope s_Family_repr) .none kV_Family_repr dc_Family_repr pm_Family_repr an_Family_repr cd_Family_repr ct_Family_repr), sl_Family_repr⟩)
    (c_Family_repr : PySem.W.codeIn K cd_Family_repr "Family.__repr__" = true)
    (k_Family_repr : PySem.W.keepIn K (.ref f_Family_repr) = true)
    (a_law_bag : PySem.W.nsIn K mainGlobals "_law_bag" = some (some (.ref f_law_bag)))
    (l_law_bag : K.lookup f_law_bag = some ⟨oc_law_bag, od_law_bag, .func (PySem.W.fnOf "_law_bag" "_law_bag" (defArgs s_law_bag) (defBody s_law_bag) (defScope s_law_bag) .none kV_law_bag dc_law_bag pm_law_bag an_law_bag cd_law_bag ct_law_bag), sl_law_bag⟩)
    (c_law_bag : PySem.W.codeIn K cd_law_bag "_law_bag" = true)
    (k_law_bag : PySem.W.keepIn K (.ref f_law_bag) = true)
    (a_law_take : PySem.W.nsIn K mainGlobals "_law_take" = some (some (.ref f_law_take)))
    (l_law_take : K.lookup f_law_take = some ⟨oc_law_take, od_law_take, .func (PySem.W.fnOf "_law_take" "_law_take" (defArgs s_law_take) (defBody s_law_take) (defScope s_law_take) .none kV_law_take dc_law_take pm_law_take an_law_take cd_law_take ct_law_take), sl_law_take⟩)
    (c_law_take : PySem.W.codeIn K cd_law_take "_law_take" = true)
    (k_law_take : PySem.W.keepIn K (.ref f_law_take) = true)
    (a_law_of : PySem.W.nsIn K mainGlobals "_law_of" = some (some (.ref f_law_of)))
    (l_law_of : K.lookup f_law_of = some ⟨oc_law_of, od_law_of, .func (PySem.W.fnOf "_law_of" "_law_of" (defArgs s_law_of) (defBody s_law_of) (defScope s_law_of) .none kV_law_of dc_law_of pm_law_of an_law_of cd_law_of ct_law_of), sl_law_of⟩)
    (c_law_of : PySem.W.codeIn K cd_law_of "_law_of" = true)
    (k_law_of : PySem.W.keepIn K (.ref f_law_of) = true)
    (a_law_licences : PySem.W.nsIn K mainGlobals "_law_licences" = some (some (.ref f_law_licences)))
    (l_law_licences : K.lookup f_law_licences = some ⟨oc_law_licences, od_law_licences, .func (PySem.W.fnOf "_law_licences" "_law_licences" (defArgs s_law_licences) (defBody s_law_licences) (defScope s_law_licences) .none kV_law_licences dc_law_licences pm_law_licences an_law_licences cd_law_licences ct_law_licences), sl_law_licences⟩)
    (c_law_licences : PySem.W.codeIn K cd_law_licences "_law_licences" = true)
    (k_law_licences : PySem.W.keepIn K (.ref f_law_licences) = true)
    (a_law_some : PySem.W.nsIn K mainGlobals "_law_some" = some (some (.ref f_law_some)))
    (l_law_some : K.lookup f_law_some = some ⟨oc_law_some, od_law_some, .func (PySem.W.fnOf "_law_some" "_law_some" (defArgs s_law_some) (defBody s_law_some) (defScope s_law_some) .none kV_law_some dc_law_some pm_law_some an_law_some cd_law_some ct_law_some), sl_law_some⟩)
    (c_law_some : PySem.W.codeIn K cd_law_some "_law_some" = true)
    (k_law_some : PySem.W.keepIn K (.ref f_law_some) = true)
    (a_law_sorted : PySem.W.nsIn K mainGlobals "_law_sorted" = some (some (.ref f_law_sorted)))
    (l_law_sorted : K.lookup f_law_sorted = some ⟨oc_law_sorted, od_law_sorted, .func (PySem.W.fnOf "_law_sorted" "_law_sorted" (defArgs s_law_sorted) (defBody s_law_sorted) (defScope s_law_sorted) .none kV_law_sorted dc_law_sorted pm_law_sorted an_law_sorted cd_law_sorted ct_law_sorted), sl_law_sorted⟩)
    (c_law_sorted : PySem.W.codeIn K cd_law_sorted "_law_sorted" = true)
    (k_law_sorted : PySem.W.keepIn K (.ref f_law_sorted) = true)
    (a_law_has : PySem.W.nsIn K mainGlobals "_law_has" = some (some (.ref f_law_has)))
    (l_law_has : K.lookup f_law_has = some ⟨oc_law_has, od_law_has, .func (PySem.W.fnOf "_law_has" "_law_has" (defArgs s_law_has) (defBody s_law_has) (defScope s_law_has) .none kV_law_has dc_law_has pm_law_has an_law_has cd_law_has ct_law_has), sl_law_has⟩)
    (c_law_has : PySem.W.codeIn K cd_law_has "_law_has" = true)
    (k_law_has : PySem.W.keepIn K (.ref f_law_has) = true)
    (a_law_signs_right : PySem.W.nsIn K mainGlobals "_law_signs_right" = some (some (.ref f_law_signs_right)))
    (l_law_signs_right : K.lookup f_law_signs_right = some ⟨oc_law_signs_right, od_law_signs_right, .func (PySem.W.fnOf "_law_signs_right" "_law_signs_right" (defArgs s_law_signs_right) (defBody s_law_signs_right) (defScope s_law_signs_right) .none kV_law_signs_right dc_law_signs_right pm_law_signs_right an_law_signs_right cd_law_signs_right ct_law_signs_right), sl_law_signs_right⟩)
    (c_law_signs_right : PySem.W.codeIn K cd_law_signs_right "_law_signs_right" = true)
    (k_law_signs_right : PySem.W.keepIn K (.ref f_law_signs_right) = true)
    (a_law_three_right : PySem.W.nsIn K mainGlobals "_law_three_right" = some (some (.ref f_law_three_right)))
    (l_law_three_right : K.lookup f_law_three_right = some ⟨oc_law_three_right, od_law_three_right, .func (PySem.W.fnOf "_law_three_right" "_law_three_right" (defArgs s_law_three_right) (defBody s_law_three_right) (defScope s_law_three_right) .none kV_law_three_right dc_law_three_right pm_law_three_right an_law_three_right cd_law_three_right ct_law_three_right), sl_law_three_right⟩)
    (c_law_three_right : PySem.W.codeIn K cd_law_three_right "_law_three_right" = true)
    (k_law_three_right : PySem.W.keepIn K (.ref f_law_three_right) = true)
    (a_law : PySem.W.nsIn K mainGlobals "law" = some (some (.ref f_law)))
    (l_law : K.lookup f_law = some ⟨oc_law, od_law, .func (PySem.W.fnOf "law" "law" (defArgs s_law) (defBody s_law) (defScope s_law) .none kV_law dc_law pm_law an_law cd_law ct_law), sl_law⟩)
    (c_law : PySem.W.codeIn K cd_law "law" = true)
    (k_law : PySem.W.keepIn K (.ref f_law) = true)
    (pg_Family : PySem.W.plainGet K C_Family Str.empty = true)
    (hd_Family : PySem.W.hasDictIn K C_Family = true)
    (po_Family : PySem.W.plainOver K C_Family = true)
    (sa_Family : PySem.W.findIn K (.ref C_Family) "__setattr__" = some (some (.builtin "object.__setattr__")))
    (mk_Family : PySem.W.makesIn K C_Family = true)
    (kc_Family : PySem.W.keepIn K (.ref C_Family) = true)
    (rd_Family : PySem.W.readsIn K C_Family (.type "type") = true)
    (ga_Family : PySem.W.specialIn K (.ref C_Family) "__getattribute__" = some (some (.builtin "type.__getattribute__")))
    (mo_Family : PySem.W.mroIn K C_Family (.type "object") = some true)
    (hc_Family : PySem.W.findIn K (.ref C_Family) "__class__" = some (some (.builtin "object.__class__")))
    (ic_Family : PySem.W.isClsIn K C_Family = true)
    (ty_Family : PySem.W.typeIn K (.ref C_Family) = some (.type "type"))
    (ne_Family : PySem.W.findIn K (.ref C_Family) "__ne__" = some (some (.builtin "object.__ne__")))
    (ns_Family_list : PySem.W.subIn K (.type "list") (.ref C_Family) = some false)
    (ns_Family_tuple : PySem.W.subIn K (.type "tuple") (.ref C_Family) = some false)
    (ns_Family_str : PySem.W.subIn K (.type "str") (.ref C_Family) = some false)
    (ns_Family_NoneType : PySem.W.subIn K (.type "NoneType") (.ref C_Family) = some false)
    (ns_Family_int : PySem.W.subIn K (.type "int") (.ref C_Family) = some false)
    (sf_Family : PySem.W.selfFirst K C_Family = true)
    (a_Family_LICENCES : PySem.W.findCls K (.ref C_Family) (.type "type") "LICENCES" = some (.val (.ref ad_Family_LICENCES)))
    (lk_Family_LICENCES : K.lookup ad_Family_LICENCES = some ⟨.type "tuple", od_Family_LICENCES, .seq #[.str "needs" t0_Family_LICENCES, .str "takes" t1_Family_LICENCES, .str "fixes" t2_Family_LICENCES, .str "ties" t3_Family_LICENCES, .str "keeps" t4_Family_LICENCES, .str "named" t5_Family_LICENCES, .str "call" t6_Family_LICENCES, .str "names" t7_Family_LICENCES, .str "renew" t8_Family_LICENCES, .str "copy" t9_Family_LICENCES] n_Family_LICENCES, sl_Family_LICENCES⟩)
    (no_Family_words : PySem.W.findIn K (.ref C_Family) "words" = some none)
    (hnC : PySem.W.specialIn K (.builtin "object.__class__") "__get__" = some (some (.builtin "getset_descriptor.__get__")))
    (htC : PySem.W.takesIn K (.builtin "object.__class__") = some true)
    (n_abs : PySem.W.nsIn K mainGlobals "abs" = some none)
    (n_all : PySem.W.nsIn K mainGlobals "all" = some none)
    (n_enumerate : PySem.W.nsIn K mainGlobals "enumerate" = some none)
    (n_int : PySem.W.nsIn K mainGlobals "int" = some none)
    (n_isinstance : PySem.W.nsIn K mainGlobals "isinstance" = some none)
    (n_len : PySem.W.nsIn K mainGlobals "len" = some none)
    (n_list : PySem.W.nsIn K mainGlobals "list" = some none)
    (n_max : PySem.W.nsIn K mainGlobals "max" = some none)
    (n_min : PySem.W.nsIn K mainGlobals "min" = some none)
    (n_range : PySem.W.nsIn K mainGlobals "range" = some none)
    (n_repr : PySem.W.nsIn K mainGlobals "repr" = some none)
    (n_tuple : PySem.W.nsIn K mainGlobals "tuple" = some none) :
    ∃ fd : FuncData, (∀ (s : Shared) (v : Value), BindsTo s fd ⟨[v], []⟩ [("_law_script", v)]) ∧ ∀ base : Heap, K.In base → base.Ns mainGlobals mg → FnOk l.prog w K mg base CX0 5 fa fd ["_law_script"] (sp_law K) := by
  have e := hfa.symm.trans (PySem.W.mg_of X G a_law)
  cases e
  have T : Txt K mg ⟨f_Family_init, (PySem.W.fnOf "__init__" "Family.__init__" (defArgs s_Family_init) (defBody s_Family_init) (defScope s_Family_init) .none kV_Family_init dc_Family_init pm_Family_init an_Family_init cd_Family_init ct_Family_init), f_Family_is_within, (PySem.W.fnOf "is_within" "Family.is_within" (defArgs s_Family_is_within) (defBody s_Family_is_within) (defScope s_Family_is_within) .none kV_Family_is_within dc_Family_is_within pm_Family_is_within an_Family_is_within cd_Family_is_within ct_Family_is_within), f_Family_and, (PySem.W.fnOf "__and__" "Family.__and__" (defArgs s_Family_and) (defBody s_Family_and) (defScope s_Family_and) .none kV_Family_and dc_Family_and pm_Family_and an_Family_and cd_Family_and ct_Family_and), f_Family_or, (PySem.W.fnOf "__or__" "Family.__or__" (defArgs s_Family_or) (defBody s_Family_or) (defScope s_Family_or) .none kV_Family_or dc_Family_or pm_Family_or an_Family_or cd_Family_or ct_Family_or), f_Family_sub, (PySem.W.fnOf "__sub__" "Family.__sub__" (defArgs s_Family_sub) (defBody s_Family_sub) (defScope s_Family_sub) .none kV_Family_sub dc_Family_sub pm_Family_sub an_Family_sub cd_Family_sub ct_Family_sub), f_Family_len, (PySem.W.fnOf "__len__" "Family.__len__" (defArgs s_Family_len) (defBody s_Family_len) (defScope s_Family_len) .none kV_Family_len dc_Family_len pm_Family_len an_Family_len cd_Family_len ct_Family_len), f_Family_eq, (PySem.W.fnOf "__eq__" "Family.__eq__" (defArgs s_Family_eq) (defBody s_Family_eq) (defScope s_Family_eq) .none kV_Family_eq dc_Family_eq pm_Family_eq an_Family_eq cd_Family_eq ct_Family_eq), f_Family_repr, (PySem.W.fnOf "__repr__" "Family.__repr__" (defArgs s_Family_repr) (defBody s_Family_repr) (defScope s_Family_repr) .none kV_Family_repr dc_Family_repr pm_Family_repr an_Family_repr cd_Family_repr ct_Family_repr), f_law_bag, (PySem.W.fnOf "_law_bag" "_law_bag" (defArgs s_law_bag) (defBody s_law_bag) (defScope s_law_bag) .none kV_law_bag dc_law_bag pm_law_bag an_law_bag cd_law_bag ct_law_bag), f_law_take, (PySem.W.fnOf "_law_take" "_law_take" (defArgs s_law_take) (defBody s_law_take) (defScope s_law_take) .none kV_law_take dc_law_take pm_law_take an_law_take cd_law_take ct_law_take), f_law_of, (PySem.W.fnOf "_law_of" "_law_of" (defArgs s_law_of) (defBody s_law_of) (defScope s_law_of) .none kV_law_of dc_law_of pm_law_of an_law_of cd_law_of ct_law_of), f_law_licences, (PySem.W.fnOf "_law_licences" "_law_licences" (defArgs s_law_licences) (defBody s_law_licences) (defScope s_law_licences) .none kV_law_licences dc_law_licences pm_law_licences an_law_licences cd_law_licences ct_law_licences), f_law_some, (PySem.W.fnOf "_law_some" "_law_some" (defArgs s_law_some) (defBody s_law_some) (defScope s_law_some) .none kV_law_some dc_law_some pm_law_some an_law_some cd_law_some ct_law_some), f_law_sorted, (PySem.W.fnOf "_law_sorted" "_law_sorted" (defArgs s_law_sorted) (defBody s_law_sorted) (defScope s_law_sorted) .none kV_law_sorted dc_law_sorted pm_law_sorted an_law_sorted cd_law_sorted ct_law_sorted), f_law_has, (PySem.W.fnOf "_law_has" "_law_has" (defArgs s_law_has) (defBody s_law_has) (defScope s_law_has) .none kV_law_has dc_law_has pm_law_has an_law_has cd_law_has ct_law_has), f_law_signs_right, (PySem.W.fnOf "_law_signs_right" "_law_signs_right" (defArgs s_law_signs_right) (defBody s_law_signs_right) (defScope s_law_signs_right) .none kV_law_signs_right dc_law_signs_right pm_law_signs_right an_law_signs_right cd_law_signs_right ct_law_signs_right), f_law_three_right, (PySem.W.fnOf "_law_three_right" "_law_three_right" (defArgs s_law_three_right) (defBody s_law_three_right) (defScope s_law_three_right) .none kV_law_three_right dc_law_three_right pm_law_three_right an_law_three_right cd_law_three_right ct_law_three_right), fa, (PySem.W.fnOf "law" "law" (defArgs s_law) (defBody s_law) (defScope s_law) .none kV_law dc_law pm_law an_law cd_law ct_law), C_Family, ad_Family_LICENCES⟩ := {
    F_Family_init := fun_mk (st := s_Family_init) l_Family_init c_Family_init k_Family_init,
    b_Family_init := (fun_mk (st := s_Family_init) l_Family_init c_Family_init k_Family_init).binds (ps := ["self", "words"]) fun _ _ _ _ _ _ us hl => match us, hl with | [_, _], _ => rfl,
    m_Family_init := ⟨a_Family_init, i_Family_init, k_Family_init⟩,
    F_Family_is_within := fun_mk (st := s_Family_is_within) l_Family_is_within c_Family_is_within k_Family_is_within,
    b_Family_is_within := (fun_mk (st := s_Family_is_within) l_Family_is_within c_Family_is_within k_Family_is_within).binds (ps := ["self", "other"]) fun _ _ _ _ _ _ us hl => match us, hl with | [_, _], _ => rfl,
    m_Family_is_within := ⟨a_Family_is_within, i_Family_is_within, k_Family_is_within⟩,
    F_Family_and := fun_mk (st := s_Family_and) l_Family_and c_Family_and k_Family_and,
    b_Family_and := (fun_mk (st := s_Family_and) l_Family_and c_Family_and k_Family_and).binds (ps := ["self", "other"]) fun _ _ _ _ _ _ us hl => match us, hl with | [_, _], _ => rfl,
    m_Family_and := ⟨a_Family_and, i_Family_and, k_Family_and⟩,
    F_Family_or := fun_mk (st := s_Family_or) l_Family_or c_Family_or k_Family_or,
    b_Family_or := (fun_mk (st := s_Family_or) l_Family_or c_Family_or k_Family_or).binds (ps := ["self", "other"]) fun _ _ _ _ _ _ us hl => match us, hl with | [_, _], _ => rfl,
    m_Family_or := ⟨a_Family_or, i_Family_or, k_Family_or⟩,
    F_Family_sub := fun_mk (st := s_Family_sub) l_Family_sub c_Family_sub k_Family_sub,
    b_Family_sub := (fun_mk (st := s_Family_sub) l_Family_sub c_Family_sub k_Family_sub).binds (ps := ["self", "other"]) fun _ _ _ _ _ _ us hl => match us, hl with | [_, _], _ => rfl,
    m_Family_sub := ⟨a_Family_sub, i_Family_sub, k_Family_sub⟩,
    F_Family_len := fun_mk (st := s_Family_len) l_Family_len c_Family_len k_Family_len,
    b_Family_len := (fun_mk (st := s_Family_len) l_Family_len c_Family_len k_Family_len).binds (ps := ["self"]) fun _ _ _ _ _ _ us hl => match us, hl with | [_], _ => rfl,
    m_Family_len := ⟨a_Family_len, i_Family_len, k_Family_len⟩,
    F_Family_eq := fun_mk (st := s_Family_eq) l_Family_eq c_Family_eq k_Family_eq,
    b_Family_eq := (fun_mk (st := s_Family_eq) l_Family_eq c_Family_eq k_Family_eq).binds (ps := ["self", "other"]) fun _ _ _ _ _ _ us hl => match us, hl with | [_, _], _ => rfl,
    m_Family_eq := ⟨a_Family_eq, i_Family_eq, k_Family_eq⟩,
    F_Family_repr := fun_mk (st := s_Family_repr) l_Family_repr c_Family_repr k_Family_repr,
    b_Family_repr := (fun_mk (st := s_Family_repr) l_Family_repr c_Family_repr k_Family_repr).binds (ps := ["self"]) fun _ _ _ _ _ _ us hl => match us, hl with | [_], _ => rfl,
    m_Family_repr := ⟨a_Family_repr, i_Family_repr, k_Family_repr⟩,
    F_law_bag := fun_mk (st := s_law_bag) l_law_bag c_law_bag k_law_bag,
    b_law_bag := (fun_mk (st := s_law_bag) l_law_bag c_law_bag k_law_bag).binds (ps := ["_law_script", "_law_at"]) fun _ _ _ _ _ _ us hl => match us, hl with | [_, _], _ => rfl,
    g_law_bag := PySem.W.mg_of X G a_law_bag,
    F_law_take := fun_mk (st := s_law_take) l_law_take c_law_take k_law_take,
    b_law_take := (fun_mk (st := s_law_take) l_law_take c_law_take k_law_take).binds (ps := ["_law_bag_here", "_law_many"]) fun _ _ _ _ _ _ us hl => match us, hl with | [_, _], _ => rfl,
    g_law_take := PySem.W.mg_of X G a_law_take,
    F_law_of := fun_mk (st := s_law_of) l_law_of c_law_of k_law_of,
    b_law_of := (fun_mk (st := s_law_of) l_law_of c_law_of k_law_of).binds (ps := ["_law_bag_here", "_law_some_here"]) fun _ _ _ _ _ _ us hl => match us, hl with | [_, _], _ => rfl,
    g_law_of := PySem.W.mg_of X G a_law_of,
    F_law_licences := fun_mk (st := s_law_licences) l_law_licences c_law_licences k_law_licences,
    b_law_licences := (fun_mk (st := s_law_licences) l_law_licences c_law_licences k_law_licences).binds (ps := []) fun _ _ _ _ _ _ us hl => match us, hl with | [], _ => rfl,
    g_law_licences := PySem.W.mg_of X G a_law_licences,
    F_law_some := fun_mk (st := s_law_some) l_law_some c_law_some k_law_some,
    b_law_some := (fun_mk (st := s_law_some) l_law_some c_law_some k_law_some).binds (ps := ["_law_bag_here"]) fun _ _ _ _ _ _ us hl => match us, hl with | [_], _ => rfl,
    g_law_some := PySem.W.mg_of X G a_law_some,
    F_law_sorted := fun_mk (st := s_law_sorted) l_law_sorted c_law_sorted k_law_sorted,
    b_law_sorted := (fun_mk (st := s_law_sorted) l_law_sorted c_law_sorted k_law_sorted).binds (ps := ["_law_words"]) fun _ _ _ _ _ _ us hl => match us, hl with | [_], _ => rfl,
    g_law_sorted := PySem.W.mg_of X G a_law_sorted,
    F_law_has := fun_mk (st := s_law_has) l_law_has c_law_has k_law_has,
    b_law_has := (fun_mk (st := s_law_has) l_law_has c_law_has k_law_has).binds (ps := ["_law_family", "_law_words"]) fun _ _ _ _ _ _ us hl => match us, hl with | [_, _], _ => rfl,
    g_law_has := PySem.W.mg_of X G a_law_has,
    F_law_signs_right := fun_mk (st := s_law_signs_right) l_law_signs_right c_law_signs_right k_law_signs_right,
    b_law_signs_right := (fun_mk (st := s_law_signs_right) l_law_signs_right c_law_signs_right k_law_signs_right).binds (ps := ["_law_one", "_law_other", "_law_first", "_law_second"]) fun _ _ _ _ _ _ us hl => match us, hl with | [_, _, _, _], _ => rfl,
    g_law_signs_right := PySem.W.mg_of X G a_law_signs_right,
    F_law_three_right := fun_mk (st := s_law_three_right) l_law_three_right c_law_three_right k_law_three_right,
    b_law_three_right := (fun_mk (st := s_law_three_right) l_law_three_right c_law_three_right k_law_three_right).binds (ps := ["_law_one", "_law_other", "_law_third"]) fun _ _ _ _ _ _ us hl => match us, hl with | [_, _, _], _ => rfl,
    g_law_three_right := PySem.W.mg_of X G a_law_three_right,
    F_law := fun_mk (st := s_law) l_law c_law k_law,
    b_law := (fun_mk (st := s_law) l_law c_law k_law).binds (ps := ["_law_script"]) fun _ _ _ _ _ _ us hl => match us, hl with | [_], _ => rfl,
    g_law := PySem.W.mg_of X G a_law,
    g_Family := PySem.W.mg_of X G a_C_Family,
    cl_Family := ⟨pg_Family, hd_Family, po_Family, sa_Family⟩,
    ty_Family := ⟨⟨pg_Family, hd_Family, po_Family, sa_Family⟩, hc_Family, hnC, htC, mo_Family, ic_Family, ty_Family⟩,
    cr_Family := ⟨rd_Family, ga_Family⟩,
    mk_Family := ⟨mk_Family, a_Family_init, i_Family_init, kc_Family⟩,
    ne_Family := ⟨ne_Family, mo_Family⟩,
    ns_Family_list := ns_Family_list,
    ns_Family_tuple := ns_Family_tuple,
    ns_Family_str := ns_Family_str,
    ns_Family_NoneType := ns_Family_NoneType,
    ns_Family_int := ns_Family_int,
    sf_Family := sf_Family,
    cv_Family_LICENCES := ⟨a_Family_LICENCES, rfl⟩,
    q_Family_LICENCES := fun _ => .inr ⟨_, _, _, lk_Family_LICENCES, rfl, rfl, (by show 10 ≤ sizeLine; decide), .cons ⟨_, rfl⟩ (.cons ⟨_, rfl⟩ (.cons ⟨_, rfl⟩ (.cons ⟨_, rfl⟩ (.cons ⟨_, rfl⟩ (.cons ⟨_, rfl⟩ (.cons ⟨_, rfl⟩ (.cons ⟨_, rfl⟩ (.cons ⟨_, rfl⟩ (.cons ⟨_, rfl⟩ (.nil))))))))))⟩,
    no_Family_words := no_Family_words,
    n_abs := PySem.W.mg_none_of X G n_abs,
    n_all := PySem.W.mg_none_of X G n_all,
    n_enumerate := PySem.W.mg_none_of X G n_enumerate,
    n_int := PySem.W.mg_none_of X G n_int,
    n_isinstance := PySem.W.mg_none_of X G n_isinstance,
    n_len := PySem.W.mg_none_of X G n_len,
    n_list := PySem.W.mg_none_of X G n_list,
    n_max := PySem.W.mg_none_of X G n_max,
    n_min := PySem.W.mg_none_of X G n_min,
    n_range := PySem.W.mg_none_of X G n_range,
    n_repr := PySem.W.mg_none_of X G n_repr,
    n_tuple := PySem.W.mg_none_of X G n_tuple }
  exact ⟨_, fun s v => .of_eq rfl, fun base _ _ => ok_law T⟩
theorem walk {l : PySem.W.OpenLaw} {q : Program} {loose : List Str} {XP : (Str → Option Value) → Heap → Prop} {YP : World → Heap → Prop} {d : DefRec} {K : Params → PySem.W.Frag} (hn : l.most = some 63) (hdf : d.params.defaults = [])
    (hY : ∀ (w : World) (h : Heap), YP w h → (K w.params).In h)
    (F : ∀ (w : World) (mg : Str → Option Value) (fa : Addr) (h : Heap), (K w.params).In h → h.Ns mainGlobals mg → mg d.name = some (.ref fa) →
      ∃ fd : FuncData, (∀ (s : Shared) (u : Value), BindsTo s fd ⟨[u], []⟩ [("_law_script", u)]) ∧ ∀ base : Heap, (K w.params).In base → base.Ns mainGlobals mg → FnOk l.prog w (K w.params) mg base CX0 5 fa fd ["_law_script"] (sp_law (K w.params))) :
    PySem.W.WalkO q loose XP YP l.row.toRowW d [] (fun f vs => PySem.call f vs) :=
  L2.walk_ofB (n := 63) (k := 5) (x := "_law_script") (CX := fun _ => CX0) (sp := fun w => sp_law (K w.params)) hn (by decide) hdf ⟨rfl, by decide, by decide⟩ hY F (fun _ _ a ns hl hb _ hS => ⟨a, ns, rfl, hS, hl, fun _ => rfl⟩) fun _ _ _ _ _ z => z
end K87
open PySem PySem.W PyProof.Rows
set_option maxRecDepth 100000 in
set_option maxHeartbeats 0 in
theorem PySem.Challenge.cw_heirsback_k87_families_joined_holds : PySem.Challenge.rw_heirsback_k87_families_joined.Holds := by
  refine hd ?_
  k_fill
  refine K87.walk (l := PySem.Challenge.rw_heirsback_k87_families_joined) rfl rfl (fun w h Y => PySem.W.kIn_of Y) ?F
  case F =>
    intro w mg fa h KX G hmg
    have hmg : mg "law" = some (.ref fa) := hmg
    refine' K87.all_mk KX G hmg ?a_C_Family ?a_Family_init ?i_Family_init ?l_Family_init ?c_Family_init ?k_Family_init ?a_Family_is_within ?i_Family_is_within ?l_Family_is_within ?c_Family_is_within ?k_Family_is_within ?a_Family_and ?i_Family_and ?l_Family_and ?c_Family_and ?k_Family_and ?a_Family_or ?i_Family_or ?l_Family_or ?c_Family_or ?k_Family_or ?a_Family_sub ?i_Family_sub ?l_Family_sub ?c_Family_sub ?k_Family_sub ?a_Family_len ?i_Family_len ?l_Family_len ?c_Family_len ?k_Family_len ?a_Family_eq ?i_Family_eq ?l_Family_eq ?c_Family_eq ?k_Family_eq ?a_Family_repr ?i_Family_repr ?l_Family_repr ?c_Family_repr ?k_Family_repr ?a_law_bag ?l_law_bag ?c_law_bag ?k_law_bag ?a_law_take ?l_law_take ?c_law_take ?k_law_take ?a_law_of ?l_law_of ?c_law_of ?k_law_of ?a_law_licences ?l_law_licences ?c_law_licences ?k_law_licences ?a_law_some ?l_law_some ?c_law_some ?k_law_some ?a_law_sorted ?l_law_sorted ?c_law_sorted ?k_law_sorted ?a_law_has ?l_law_has ?c_law_has ?k_law_has ?a_law_signs_right ?l_law_signs_right ?c_law_signs_right ?k_law_signs_right ?a_law_three_right ?l_law_three_right ?c_law_three_right ?k_law_three_right ?a_law ?l_law ?c_law ?k_law ?pg_Family ?hd_Family ?po_Family ?sa_Family ?mk_Family ?kc_Family ?rd_Family ?ga_Family ?mo_Family ?hc_Family ?ic_Family ?ty_Family ?ne_Family ?ns_Family_list ?ns_Family_tuple ?ns_Family_str ?ns_Family_NoneType ?ns_Family_int ?sf_Family ?a_Family_LICENCES ?lk_Family_LICENCES ?no_Family_words ?hnC ?htC ?n_abs ?n_all ?n_enumerate ?n_int ?n_isinstance ?n_len ?n_list ?n_max ?n_min ?n_range ?n_repr ?n_tuple
    (case a_C_Family => k_is)
    (case a_Family_init => k_is)
    (case i_Family_init => k_is)
    (case l_Family_init => k_is)
    (case c_Family_init => k_is)
    (case k_Family_init => k_is)
    (case a_Family_is_within => k_is)
    (case i_Family_is_within => k_is)
    (case l_Family_is_within => k_is)
    (case c_Family_is_within => k_is)
    (case k_Family_is_within => k_is)
    (case a_Family_and => k_is)
    (case i_Family_and => k_is)
    (case l_Family_and => k_is)
    (case c_Family_and => k_is)
    (case k_Family_and => k_is)
    (case a_Family_or => k_is)
    (case i_Family_or => k_is)
    (case l_Family_or => k_is)
    (case c_Family_or => k_is)
    (case k_Family_or => k_is)
    (case a_Family_sub => k_is)
    (case i_Family_sub => k_is)
    (case l_Family_sub => k_is)
    (case c_Family_sub => k_is)
    (case k_Family_sub => k_is)
    (case a_Family_len => k_is)
    (case i_Family_len => k_is)
    (case l_Family_len => k_is)
    (case c_Family_len => k_is)
    (case k_Family_len => k_is)
    (case a_Family_eq => k_is)
    (case i_Family_eq => k_is)
    (case l_Family_eq => k_is)
    (case c_Family_eq => k_is)
    (case k_Family_eq => k_is)
    (case a_Family_repr => k_is)
    (case i_Family_repr => k_is)
    (case l_Family_repr => k_is)
    (case c_Family_repr => k_is)
    (case k_Family_repr => k_is)
    (case a_law_bag => k_is)
    (case l_law_bag => k_is)
    (case c_law_bag => k_is)
    (case k_law_bag => k_is)
    (case a_law_take => k_is)
    (case l_law_take => k_is)
    (case c_law_take => k_is)
    (case k_law_take => k_is)
    (case a_law_of => k_is)
    (case l_law_of => k_is)
    (case c_law_of => k_is)
    (case k_law_of => k_is)
    (case a_law_licences => k_is)
    (case l_law_licences => k_is)
    (case c_law_licences => k_is)
    (case k_law_licences => k_is)
    (case a_law_some => k_is)
    (case l_law_some => k_is)
    (case c_law_some => k_is)
    (case k_law_some => k_is)
    (case a_law_sorted => k_is)
    (case l_law_sorted => k_is)
    (case c_law_sorted => k_is)
    (case k_law_sorted => k_is)
    (case a_law_has => k_is)
    (case l_law_has => k_is)
    (case c_law_has => k_is)
    (case k_law_has => k_is)
    (case a_law_signs_right => k_is)
    (case l_law_signs_right => k_is)
    (case c_law_signs_right => k_is)
    (case k_law_signs_right => k_is)
    (case a_law_three_right => k_is)
    (case l_law_three_right => k_is)
    (case c_law_three_right => k_is)
    (case k_law_three_right => k_is)
    (case a_law => k_is)
    (case l_law => k_is)
    (case c_law => k_is)
    (case k_law => k_is)
    (case pg_Family => k_is)
    (case hd_Family => k_is)
    (case po_Family => k_is)
    (case sa_Family => k_is)
    (case mk_Family => k_is)
    (case kc_Family => k_is)
    (case rd_Family => k_is)
    (case ga_Family => k_is)
    (case mo_Family => k_is)
    (case hc_Family => k_is)
    (case ic_Family => k_is)
    (case ty_Family => k_is)
    (case ne_Family => k_is)
    (case ns_Family_list => k_is)
    (case ns_Family_tuple => k_is)
    (case ns_Family_str => k_is)
    (case ns_Family_NoneType => k_is)
    (case ns_Family_int => k_is)
    (case sf_Family => k_is)
    (case a_Family_LICENCES => k_is)
    (case lk_Family_LICENCES => k_is)
    (case no_Family_words => k_is)
    (case hnC => k_is)
    (case htC => k_is)
    (case n_abs => k_is)
    (case n_all => k_is)
    (case n_enumerate => k_is)
    (case n_int => k_is)
    (case n_isinstance => k_is)
    (case n_len => k_is)
    (case n_list => k_is)
    (case n_max => k_is)
    (case n_min => k_is)
    (case n_range => k_is)
    (case n_repr => k_is)
    (case n_tuple => k_is)
#print axioms PySem.Challenge.cw_heirsback_k87_families_joined_holds

