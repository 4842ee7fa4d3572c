import PyProof.Rows.All
import Wide.All
import OpenK.AllK
import Wide.FinOn
import HandS.ForMost
import HandS.ForExc
import HandS.FStr
import HandS.Wide
import HandS.Deep
import HandS.OwnEq
import HandS.ClsMeth
import HandS.CallRecv
import HandS.CallLocal
import HandS.IsInst
import HandS.EndBits
import HandS.RaiseMore
import HandS.Evl
import HandS.Style
import HandS.Codes
import HandS.ExcInit
import KE.KOpsOwn
import PyProof.ListMulRight
import HandS.ExcField
import HandS.ExcIs
import HandS.ExcOwn
import HandS.Lambda
import KE.KExcIs
import HandS.HotCalls
import PySem.Challenge.RW_heirsback_k33_too_many_steps
set_option Elab.async false
set_option linter.all false
set_option maxRecDepth 100000
set_option maxHeartbeats 4000000
/-! Rules beside the hand layer: own special methods by the built-in's name, static methods, classes held in a name. -/
namespace Hk
open PySem PySem.Spec PyProof.Rows L2

/-! ### a def run somewhere below the running body -/
section
variable {X : Cx} {CX : CXT} {n : Nat} {f C : Addr} {fd : FuncData} {ps : List Str} {sp : Sp} {E : XK} {pins : List (Addr × Obj)} {σ : L2.St} {H : Hp} {s : Shared}
theorem run_sub {A : Around} {Q : VK} {us : List Value} {vs : List V} (sb : Sub X n A) (F : FnOk X.prog X.w X.K X.mg X.base CX n f fd ps sp) (hb : Binds X.K fd ps []) (hx : Passes CX X E)
    (I : Inv X pins σ H s) (r : Vals vs us) (h : sp vs H Q E) : wpAny (model X.prog X.w) A (call (.ref f) us) (EP X pins σ Q) X.xe s := by
  have hl : us.length = ps.length := by rw [← r.length]; exact F.len _ _ _ _ h
  have e0 : Env0 X.prog X.w X.K X.mg X.base A X.stack s H := by
    have e := I.env0
    exact ⟨by rw [sb.fr]; exact e.frames, e.mod, e.bs, e.bsz, e.funs, e.frf, e.hok, e.bare⟩
  refine wpAny_call (codeAny_mono (F.run A X.stack s H ⟨us, []⟩ us vs Q E sb.room e0 (by
    have := hb s us I.kIn (by simpa using hl)
    simpa using this) r h) fun r s' hq => ?_)
  cases r with
  | error e => exact hx pins σ H s e s' I hq
  | ok fl =>
    cases fl with
    | ret u => exact I.after hq
    | next => exact False.elim hq
    | brk => exact False.elim hq
    | cont => exact False.elim hq
end

/-- the class at C has the def at f for this name, which keeps sp -/
structure Own (X : Cx) (C : Addr) (name : Str) (n : Nat) (sp : Sp) (E : XK) : Prop where
  ex : ∃ (f : Addr) (fd : FuncData) (ps : List Str) (CX : CXT), FnOk X.prog X.w X.K X.mg X.base CX n f fd ps sp ∧ PySem.W.findIn X.K (.ref C) name = some (some (.ref f)) ∧ PySem.W.isFn X.K (.ref f) = true ∧ Binds X.K fd ps [] ∧ Passes CX X E

section
variable {X : Cx} {n : Nat} {C : Addr} {sp : Sp} {E : XK}
/-- len(o) by __len__ -/
def rLenO (C : Addr) (sp : Sp) (E : XK) : List V → Hp → VK → Prop := fun xs H Q => ∃ a dx fs, xs = [.ref a] ∧ H a = some (.ins C dx fs) ∧ sp [.ref a] H (fun v H' => ∃ k : Int, v = .int k ∧ (0 ≤ k ∧ k < 2 ^ 63) ∧ Q (.int k) H') E
theorem call_lenO (G : Own X C "__len__" n sp E) (hr : Room (n + 1) X.A) : CallR X (.builtin "len") (rLenO C sp E) := by
  obtain ⟨f, fd, ps, CX, F, hs, hf, hb, hx⟩ := G.ex
  intro pins s σ H xs us Q I r h
  obtain ⟨a, dx, fs, rfl, ha, q⟩ := h
  cases r with
  | cons r1 r2 =>
    cases r2
    cases r1
    obtain ⟨mA, J, _⟩ := ins_get I.hok ha
    obtain ⟨od, J, _⟩ := J.look
    obtain ⟨m, hF⟩ := I.fr
    refine PySem.W.len_K hF I.ok.mod.kin J hs hf ?_
    have sb : Sub X n X.A.in1 := ⟨hr.in1, rfl⟩
    refine thn (run_sub (vs := [V.ref a]) sb F hb hx I (.cons rfl .nil) q) fun u s1 hh => ?_
    obtain ⟨v, H1, I1, rv, k, rfl, hk, q1⟩ := hh
    obtain ⟨t, rfl⟩ := rv
    exact ⟨hk, .int k, H1, I1.tok _, ⟨_, rfl⟩, q1⟩
/-- str(o) by __str__ -/
def rStrO (C : Addr) (sp : Sp) (E : XK) : List V → Hp → VK → Prop := fun xs H Q => ∃ a dx fs, xs = [.ref a] ∧ H a = some (.ins C dx fs) ∧ sp [.ref a] H (fun v H' => ∃ k : Str, v = .str k ∧ Q (.str k) H') E
theorem call_strO (G : Own X C "__str__" n sp E) (hr : Room (n + 2) X.A) : CallR X (.type "str") (rStrO C sp E) := by
  obtain ⟨f, fd, ps, CX, F, hs, hf, hb, hx⟩ := G.ex
  intro pins s σ H xs us Q I r h
  obtain ⟨a, dx, fs, rfl, ha, q⟩ := h
  cases r with
  | cons r1 r2 =>
    cases r2
    cases r1
    obtain ⟨mA, J, _⟩ := ins_get I.hok ha
    obtain ⟨od, J, _⟩ := J.look
    have sb : Sub X n X.A.in1.in1 := ⟨hr.in1.in1, rfl⟩
    refine PySem.W.kso_call sb.room.units0 I.kIn J hs hf ?_
    refine thn (run_sub (vs := [V.ref a]) sb F hb hx I (.cons rfl .nil) q) fun u s1 hh => ?_
    obtain ⟨v, H1, I1, rv, k, rfl, q1⟩ := hh
    obtain ⟨t, rfl⟩ := rv
    exact ⟨.str k, H1, I1, ⟨_, rfl⟩, q1⟩
/-- repr(o) by __repr__ -/
def rReprO (C : Addr) (sp : Sp) (E : XK) : List V → Hp → VK → Prop := rStrO C sp E
theorem call_reprO (G : Own X C "__repr__" n sp E) (hr : Room (n + 1) X.A) : CallR X (.builtin "repr") (rReprO C sp E) := by
  obtain ⟨f, fd, ps, CX, F, hs, hf, hb, hx⟩ := G.ex
  intro pins s σ H xs us Q I r h
  obtain ⟨a, dx, fs, rfl, ha, q⟩ := h
  cases r with
  | cons r1 r2 =>
    cases r2
    cases r1
    obtain ⟨mA, J, _⟩ := ins_get I.hok ha
    obtain ⟨od, J, _⟩ := J.look
    obtain ⟨m, hF⟩ := I.fr
    have sb : Sub X n X.A.in1 := ⟨hr.in1, rfl⟩
    refine PySem.W.repr_K sb.room.units0 hF I.ok.mod.kin J hs hf ?_
    refine thn (run_sub (vs := [V.ref a]) sb F hb hx I (.cons rfl .nil) q) fun u s1 hh => ?_
    obtain ⟨v, H1, I1, rv, k, rfl, q1⟩ := hh
    obtain ⟨t, rfl⟩ := rv
    exact ⟨.str k, H1, I1, ⟨_, rfl⟩, q1⟩
/-- the truth of o by __bool__ -/
def rTruO (C : Addr) (sp : Sp) (E : XK) : V → Hp → (Bool → Hp → Prop) → Prop := fun x H Q => ∃ a dx fs, x = .ref a ∧ H a = some (.ins C dx fs) ∧ sp [.ref a] H (fun v H' => ∃ b : Bool, v = .bl b ∧ Q b H') E
theorem tru_O (G : Own X C "__bool__" n sp E) (hr : Room n X.A) : TruR X (rTruO C sp E) := by
  obtain ⟨f, fd, ps, CX, F, hs, hf, hb, hx⟩ := G.ex
  intro pins s σ H x u Q I r h
  obtain ⟨a, dx, fs, rfl, ha, q⟩ := h
  cases r
  obtain ⟨mA, J, _⟩ := ins_get I.hok ha
  obtain ⟨od, J, _⟩ := J.look
  obtain ⟨m, hF⟩ := I.fr
  have sb : Sub X n X.A := ⟨hr, rfl⟩
  refine PySem.W.truthy_K hF I.ok.mod.kin J hs hf ?_
  refine thn (run_sub (vs := [V.ref a]) sb F hb hx I (.cons rfl .nil) q) fun u s1 hh => ?_
  obtain ⟨v, H1, I1, rv, k, rfl, q1⟩ := hh
  cases rv
  exact ⟨H1, I1, q1⟩

/-! ### == and != by __eq__ -/
/-- the type of the other value: an instance of the class itself, or something that is not below it -/
def OtherTy (X : Cx) (H : Hp) (C : Addr) (y : V) : Prop := (∃ b dx fs, y = .ref b ∧ H b = some (.ins C dx fs)) ∨ ∃ t, TyOf X.K H y t ∧ PySem.W.notFirst X.K C t = true
def rEqO (X : Cx) (C : Addr) (sp : Sp) (E : XK) : R2 := fun x y H Q => ∃ a dx fs, x = .ref a ∧ H a = some (.ins C dx fs) ∧ OtherTy X H C y ∧ sp [.ref a, y] H (fun v H' => ∃ b : Bool, v = .bl b ∧ Q (.bl b) H') E
def rNeO (X : Cx) (C : Addr) (sp : Sp) (E : XK) : R2 := fun x y H Q => ∃ a dx fs, x = .ref a ∧ H a = some (.ins C dx fs) ∧ OtherTy X H C y ∧ sp [.ref a, y] H (fun v H' => ∃ b : Bool, v = .bl b ∧ Q (.bl (!b)) H') E
theorem other_looks {pins : List (Addr × Obj)} {σ : L2.St} {H : Hp} {s : Shared} {y : V} {u : Value} (I : Inv X pins σ H s) (ry : RelV y u) (h : OtherTy X H C y) : ∃ t, PySem.W.Looks (model X.prog X.w) s.heap (typeOf u) t ∧ PySem.W.notFirst X.K C t = true := by
  rcases h with ⟨b, dx, fs, rfl, hb⟩ | ⟨t, ty, hn⟩
  · cases ry
    obtain ⟨mA, J, _⟩ := ins_get I.hok hb
    obtain ⟨od, J, _⟩ := J.look
    exact ⟨.ref C, J.type, by simp [PySem.W.notFirst]⟩
  · refine ⟨t, ?_, hn⟩
    cases ty with
    | non => cases (show u = Value.none from ry); exact .of_pure rfl
    | bl y => cases (show u = Value.bool y from ry); exact .of_pure rfl
    | int i => obtain ⟨t, rfl⟩ := (show ∃ t, u = Value.int i t from ry); exact .of_pure rfl
    | str x => obtain ⟨t, rfl⟩ := (show ∃ t, u = Value.str x t from ry); exact .of_pure rfl
    | flt x => obtain ⟨t, rfl⟩ := (show ∃ t, u = Value.float x t from ry); exact .of_pure rfl
    | lst e =>
      cases ry
      obtain ⟨_, its, n, _, e'⟩ := I.hok _ _ e
      exact (PySem.W.Looks.ld e').andThen .now
    | frz e =>
      cases ry
      obtain ⟨eo, _, its, n, _, e'⟩ := I.hok _ _ e
      exact (PySem.W.Looks.ld e').andThen .now
    | tup e =>
      cases ry
      obtain ⟨_, its, _, e'⟩ := I.hok _ _ e
      obtain ⟨o, ho, hc, _⟩ := e'
      exact hc ▸ (PySem.W.Looks.ld ho).andThen .now
    | dK e =>
      cases ry
      obtain ⟨_, _, vs, _, o, es, ep, ho, hx, _⟩ := I.hok _ _ e
      exact hx.1 ▸ (PySem.W.Looks.ld ho).andThen .now
    | dT e =>
      cases ry
      obtain ⟨_, _, xs, _, o, es, ep, ho, hx, _⟩ := I.hok _ _ e
      exact hx.1 ▸ (PySem.W.Looks.ld ho).andThen .now
    | ins e cl ha hg htk hm =>
      cases ry
      obtain ⟨mA, J, _⟩ := ins_get I.hok e
      obtain ⟨od, J, _⟩ := J.look
      exact J.type
theorem op_eqO (G : Own X C "__eq__" n sp E) (hr : Room n X.A) : OpR X (compareOp .Eq) (rEqO X C sp E) := by
  obtain ⟨f, fd, ps, CX, F, hs, hf, hb, hx⟩ := G.ex
  intro pins s σ H x y v u Q I rx ry h
  obtain ⟨a, dx, fs, rfl, ha, ho, q⟩ := h
  cases rx
  obtain ⟨t, ht, hn⟩ := other_looks I ry ho
  obtain ⟨mA, J, _⟩ := ins_get I.hok ha
  obtain ⟨od, J, _⟩ := J.look
  obtain ⟨m, hF⟩ := I.fr
  have sb : Sub X n X.A := ⟨hr, rfl⟩
  show wpAny (model X.prog X.w) X.A (richCompare .Eq (.ref a) u) (EP X pins σ Q) X.xe s
  refine PySem.W.cmp_K (op := .Eq) sb.room.units0 hF I.ok.mod.kin J ht hn hs hf ?_
  refine thn (run_sub (vs := [V.ref a, y]) sb F hb hx I (.cons rfl (.cons ry .nil)) q) fun w1 s1 hh => ?_
  obtain ⟨z, H1, I1, rv, b, rfl, q1⟩ := hh
  cases rv
  exact ⟨.bl b, H1, I1, rfl, q1⟩

theorem ifBound_B {M : Model} {A : Around} {E : Value → Shared → Prop} {s : Shared} {K : PySem.W.Frag} {x C : Addr} {ox : Obj} {od : Option Obj} {name : Str} {id : String} {args : List Value} {Q : Option Value → Shared → Prop} (X : K.In s.heap) (I : PySem.W.InstAt s.heap x ox C od) (hs : PySem.W.findIn K (.ref C) name = some (some (.builtin id)))
    (hb : ∀ self, bindSpecial (.builtin id) self = pure (.builtin id, [self])) (h : wpAny M A (call (.builtin id) (.ref x :: args)) (fun v => Q (some v)) E s) : wpAny M A (callSpecialIfBound? (.ref x) name args) Q E s := by
  simp only [callSpecialIfBound?, bindSpecialIfBound?]
  refine wpAny_holding (wpAny_bind (wpAny_bind (wpAny_bind (I.type.here ((PySem.W.looks_findIn X hs).here ?_)))))
  refine wpAny_bind (wpAny_askSetting (wpAny_ite ?_))
  have fin : wpAny M A (call (.builtin id) ([.ref x] ++ args) >>= fun v => pure (some v)) Q E s := wpAny_bind (wpAny_mono h (fun v s' h' => wpAny_pure h') fun _ _ h' => h')
  split
  · exact wpAny_bind ((PySem.W.Looks.of_pure (hb _)).here (wpAny_pure (by exact fin)))
  · exact wpAny_tryCatch (wpAny_bind ((PySem.W.Looks.of_pure (hb _)).here (wpAny_pure (by exact fin))))
open Builtin in
theorem ne_K {prog : Program} {w : World} {A : Around} {E : Value → Shared → Prop} {s : Shared} {K : PySem.W.Frag} {x C f : Addr} {ox : Obj} {od : Option Obj} {b tb : Value} {Q : Value → Shared → Prop} (hu : A.units < cLine) (hu1 : A.in1.units < cLine) (X : K.In s.heap) (I : PySem.W.InstAt s.heap x ox C od)
    (hb : PySem.W.Looks (model prog w) s.heap (typeOf b) tb) (hn : PySem.W.notFirst K C tb = true) (hne : PySem.W.findIn K (.ref C) "__ne__" = some (some (.builtin "object.__ne__"))) (hm : PySem.W.mroIn K C (.type "object") = some true)
    (hs : PySem.W.findIn K (.ref C) "__eq__" = some (some (.ref f))) (hf : PySem.W.isFn K (.ref f) = true)
    (h : wpAny (model prog w) A.in1 (call (.ref f) [.ref x, b]) (fun v s' => ∃ r : Bool, v = .bool r ∧ Q (.bool (!r)) s') E s) : wpAny (model prog w) A (richCompare .NotEq (.ref x) b) Q E s := by
  have one : wpAny (model prog w) A (tryCompare (.ref x) "__ne__" b) (fun r s' => ∃ v, r = some v ∧ Q v s') E s := by
    unfold tryCompare
    refine wpAny_bind (ifBound_B X I hne PySem.F.slot_object_ne.bind ?_)
    refine wpAny_call (codeAny_call_builtin PySem.F.slot_object_ne.plain PySem.F.cmpEntry_ne (PySem.W.check_slot (i := "object.__ne__") (owner := "object") (n := "__ne__") (by decide +kernel) (by decide +kernel) (I.type.andThen (PySem.W.looks_mroIn X hm)) (PySem.F.cmpArgs_ne _ _) ?_))
    unfold Builtin.«object.__ne__»
    refine wpAny_bind (m := slotArgs "__ne__" 1 _) (wpAny_pure ?_)
    refine wpAny_bind (m := cRoomFor _ _) (wpAny_cRoomFor hu1 ?_)
    refine wpAny_bind (m := callSpecialIfBound? (.ref x) (Str.ofString "__eq__") _) (PySem.W.ifBound_K X I hs hf (wpAny_mono h (fun r s' hr => ?_) fun _ _ y => y))
    obtain ⟨r, rfl, hq⟩ := hr
    refine wpAny_bind (wpAny_truthy_bool ?_)
    exact wpAny_pure (wpAny_pure ⟨_, rfl, hq⟩)
  unfold richCompare
  simp only [PySem.oneThing_ref]
  refine wpAny_holding (wpAny_bind (wpAny_cRoomFor hu ?_))
  refine wpAny_bind (I.type.here (wpAny_bind (hb.here ?_)))
  split
  · rename_i q
    have e : PySem.W.subIn K tb (.ref C) = some false := by
      rcases Bool.or_eq_true_iff.mp hn with e | e
      · rw [beq_iff_eq.mp e] at q; simp at q
      · exact beq_iff_eq.mp e
    refine wpAny_bind ((PySem.W.looks_subIn X e).here ?_)
    simp only [Bool.false_eq_true, if_false]
    refine wpAny_bind (wpAny_mono one (fun r s' z => ?_) fun _ _ e => e)
    obtain ⟨v, rfl, hq⟩ := z
    exact wpAny_pure hq
  · refine wpAny_bind (wpAny_pure ?_)
    simp only [Bool.false_eq_true, if_false]
    refine wpAny_bind (wpAny_mono one (fun r s' z => ?_) fun _ _ e => e)
    obtain ⟨v, rfl, hq⟩ := z
    exact wpAny_pure hq
/-- what a class with its own __eq__ must have for != -/
structure NeC (K : PySem.W.Frag) (C : Addr) : Prop where
  ne : PySem.W.findIn K (.ref C) "__ne__" = some (some (.builtin "object.__ne__"))
  ob : PySem.W.mroIn K C (.type "object") = some true
theorem op_neO (G : Own X C "__eq__" n sp E) (N : NeC X.K C) (hr : Room (n + 1) X.A) : OpR X (compareOp .NotEq) (rNeO X C sp E) := by
  obtain ⟨f, fd, ps, CX, F, hs, hf, hb, hx⟩ := G.ex
  intro pins s σ H x y v u Q I rx ry h
  obtain ⟨a, dx, fs, rfl, ha, ho, q⟩ := h
  cases rx
  obtain ⟨t, ht, hn⟩ := other_looks I ry ho
  obtain ⟨mA, J, _⟩ := ins_get I.hok ha
  obtain ⟨od, J, _⟩ := J.look
  have sb : Sub X n X.A.in1 := ⟨hr.in1, rfl⟩
  show wpAny (model X.prog X.w) X.A (richCompare .NotEq (.ref a) u) (EP X pins σ Q) X.xe s
  refine ne_K hr.units0 sb.room.units0 I.kIn J ht hn N.ne N.ob hs hf ?_
  refine thn (run_sub (vs := [V.ref a, y]) sb F hb hx I (.cons rfl (.cons ry .nil)) q) fun w1 s1 hh => ?_
  obtain ⟨z, H1, I1, rv, b, rfl, q1⟩ := hh
  cases rv
  exact ⟨b, rfl, .bl (!b), H1, I1, rfl, q1⟩

/-! ### in by __contains__, operators by their own methods -/
def rInO (C : Addr) (sp : Sp) (E : XK) (g : Bool → Bool) : R2 := fun x y H Q => ∃ a dx fs, y = .ref a ∧ H a = some (.ins C dx fs) ∧ sp [.ref a, x] H (fun v H' => ∃ b : Bool, v = .bl b ∧ Q (.bl (g b)) H') E
theorem op_inO (G : Own X C "__contains__" n sp E) (hr : Room n X.A) : OpR X (compareOp .In) (rInO C sp E id) := by
  obtain ⟨f, fd, ps, CX, F, hs, hf, hb, hx⟩ := G.ex
  intro pins s σ H x y v u Q I rx ry h
  obtain ⟨a, dx, fs, rfl, ha, q⟩ := h
  cases ry
  obtain ⟨mA, J, _⟩ := ins_get I.hok ha
  obtain ⟨od, J, _⟩ := J.look
  obtain ⟨m, hF⟩ := I.fr
  have sb : Sub X n X.A := ⟨hr, rfl⟩
  refine PySem.W.in_K hF I.ok.mod.kin J hs hf ?_
  refine thn (run_sub (vs := [V.ref a, x]) sb F hb hx I (.cons rfl (.cons rx .nil)) q) fun w1 s1 hh => ?_
  obtain ⟨z, H1, I1, rv, b, rfl, q1⟩ := hh
  cases rv
  exact wpAny_truthy_bool ⟨.bl b, H1, I1, rfl, q1⟩
theorem op_notInO (G : Own X C "__contains__" n sp E) (hr : Room n X.A) : OpR X (compareOp .NotIn) (rInO C sp E not) := by
  obtain ⟨f, fd, ps, CX, F, hs, hf, hb, hx⟩ := G.ex
  intro pins s σ H x y v u Q I rx ry h
  obtain ⟨a, dx, fs, rfl, ha, q⟩ := h
  cases ry
  obtain ⟨mA, J, _⟩ := ins_get I.hok ha
  obtain ⟨od, J, _⟩ := J.look
  obtain ⟨m, hF⟩ := I.fr
  have sb : Sub X n X.A := ⟨hr, rfl⟩
  refine PySem.W.notIn_K hF I.ok.mod.kin J hs hf ?_
  refine thn (run_sub (vs := [V.ref a, x]) sb F hb hx I (.cons rfl (.cons rx .nil)) q) fun w1 s1 hh => ?_
  obtain ⟨z, H1, I1, rv, b, rfl, q1⟩ := hh
  cases rv
  exact wpAny_truthy_bool ⟨.bl (!b), H1, I1, rfl, q1⟩
/-- a op b, two instances of one class; the answer an object -/
def rBinO (C : Addr) (sp : Sp) (E : XK) : R2 := fun x y H Q => ∃ a dx fs b dy gs, x = .ref a ∧ y = .ref b ∧ H a = some (.ins C dx fs) ∧ H b = some (.ins C dy gs) ∧ sp [.ref a, .ref b] H (fun v H' => ∃ p, v = .ref p ∧ Q (.ref p) H') E
theorem op_binO {op : Operator} (G : Own X C (dunder op.info.snd) n sp E) (hc : PySem.W.selfFirst X.K C = true) (hr : Room n X.A) : OpR X (binaryOp op) (rBinO C sp E) := by
  obtain ⟨f, fd, ps, CX, F, hs, hf, hb, hx⟩ := G.ex
  intro pins s σ H x y v u Q I rx ry h
  obtain ⟨a, dx, fs, b, dy, gs, rfl, rfl, ha, hb', q⟩ := h
  cases rx
  cases ry
  obtain ⟨mA, J, _⟩ := ins_get I.hok ha
  obtain ⟨od, J, _⟩ := J.look
  obtain ⟨mB, J', _⟩ := ins_get I.hok hb'
  obtain ⟨od', J', _⟩ := J'.look
  obtain ⟨m, hF⟩ := I.fr
  have sb : Sub X n X.A := ⟨hr, rfl⟩
  refine PySem.W.binop_K hF I.ok.mod.kin J J'.type hc hs hf ?_
  refine thn (run_sub (vs := [V.ref a, V.ref b]) sb F hb hx I (.cons rfl (.cons rfl .nil)) q) fun w1 s1 hh => ?_
  obtain ⟨z, H1, I1, rv, p, rfl, q1⟩ := hh
  cases rv
  exact ⟨.ref p, H1, I1, rfl, q1⟩
end

/-! ### static methods, read off the class -/
structure SMet (K : PySem.W.Frag) (C : Addr) (mc : Value) (m : Str) (g : Addr) : Prop where
  rd : ClX.CRead K C mc
  at_ : ∃ p o, PySem.W.findCls K (.ref C) mc m = some (.get (.builtin "staticmethod.__get__") (.ref p) o (.ref C)) ∧ ∃ rest, PySem.W.recIn K p "staticmethod" = some (.ref g :: rest)
  kp : PySem.W.keepIn K (.ref g) = true
theorem getmethsm_ok {X : Cx} {pins : List (Addr × Obj)} {σ : L2.St} {H : Hp} {s : Shared} {C g : Addr} {mc : Value} {m : Str} {A : Around} {E : Value → Shared → Prop} {pl : Sem Bool} {Q : Value × List Value → Shared → Prop} (I : Inv X pins σ H s) (k : SMet X.K C mc m g)
    (h : ∀ s', Inv X pins σ H s' → Q (.ref g, []) s') : wpAny (model X.prog X.w) A (getMethod (.ref C) m pl) Q E s := by
  obtain ⟨p, o, ha, rest, hp⟩ := k.at_
  refine PySem.W.method_cls I.kIn k.rd.ga (PySem.W.cls_bind I.kIn k.rd.rd ha ?_)
  refine wpAny_call (PySem.W.sm_get (s := { s with toks := s.toks + 1 }) I.kIn hp (PySem.W.handed_on rfl ?_))
  exact h _ (I.tok _)
section
variable {X : Cx} {CX : CXT} {k : Nat} {C g f : Addr} {mc : Value} {sp : Sp} {E : XK} {o e : Expr} {es : List Expr} {kws : List Keyword} {m x : Str} {pos apos p : Pos} {ta : TE} {t tk : TA} {pl : Sem Bool} {fd : FuncData} {ps ks : List Str}
/-- C.m(e, ..) -/
def tSMeth (C : Addr) (sp : Sp) (E : XK) (ta : TE) (t : TA) : TE := fun σ H Q => ta σ H fun x H1 => x = .ref C ∧ t σ H1 fun vs H2 => sp (vs ++ []) H2 Q E
theorem pe_smeth (he : PE X o ta) (c : SMet X.K C mc m g) (F : FnOk X.prog X.w X.K X.mg X.base CX k g fd ps sp) (hr : Room k X.A) (hb : Binds X.K fd ps []) (hx : Passes CX X E) (ha : PA X (e :: es) t)
    (hst : starEach (e :: es) X.env = (false, eval e X.env) :: starEach es X.env := by rfl) (hpl : (backTo pos (starEach es X.env)).any (·.1) = false := by rfl)
    (ht : eval (.Call (.Attribute o m apos) (e :: es) [] pos) X.env = (do
      let ov ← eval o X.env
      standAt apos.atName
      let (f, first) ← holding [ov] (getMethod ov m pl)
      callWith pos f first (backTo pos (starEach (e :: es) X.env)) (backToKw pos (keywordEach [] X.env))) := by rfl) :
    PE X (.Call (.Attribute o m apos) (e :: es) [] pos) (tSMeth C sp E ta t) := by
  refine ⟨fun pins s σ H Q I h => ?_⟩
  refine PySem.W.methodCall_KW (pl := pl) (thn (he.run pins s σ H _ I h) fun u s1 ⟨x, H1, I1, rx, ex, q⟩ => ?_) ht
  subst ex
  obtain rfl : u = Value.ref C := rx
  refine getmethsm_ok I1 c fun s2 I2 => ?_
  refine PySem.W.callWith_K (first := []) (h₀ := X.base) I.ok.mod.kin c.kp (thn (ha.run pos pins s2 σ H1 _ I2 q) fun us s3 ⟨vs, H2, I3, r, q2⟩ => ⟨I3.kIn, ?_⟩) hst hpl
  exact run_fn F hr hb .nil hx I3 r q2
/-- C.m(k = v, ..) -/
def tSMethK (C : Addr) (sp : Sp) (gV : List V → List V → List V) (E : XK) (ta : TE) (tk : TA) : TE := fun σ H Q => ta σ H fun x H1 => x = .ref C ∧ tk σ H1 fun zs H2 => sp (gV [] zs) H2 Q E
variable {gg : List Value → List Value → List Value} {gV : List V → List V → List V}
theorem pe_smethK (he : PE X o ta) (c : SMet X.K C mc m g) (F : FnOk X.prog X.w X.K X.mg X.base CX k g fd ps sp) (hr : Room k X.A) (hb : KBinds X.K fd ps ks gg gV) (hx : Passes CX X E) (hkw : PK X kws tk)
    (hall : (backToKw pos (keywordEach kws X.env)).all (·.1.isSome) = true := by rfl) (hks : (backToKw pos (keywordEach kws X.env)).filterMap (·.1) = ks := by rfl)
    (hpl : ((backTo pos (starEach [] X.env)).any (·.1) || (backToKw pos (keywordEach kws X.env)).any (·.1.isNone)) = false := by rfl)
    (ht : eval (.Call (.Attribute o m apos) [] kws pos) X.env = (do
      let ov ← eval o X.env
      standAt apos.atName
      let (f, first) ← holding [ov] (getMethod ov m pl)
      callWith pos f first (backTo pos (starEach [] X.env)) (backToKw pos (keywordEach kws X.env))) := by rfl) :
    PE X (.Call (.Attribute o m apos) [] kws pos) (tSMethK C sp gV E ta tk) := by
  refine ⟨fun pins s σ H Q I h => ?_⟩
  refine PySem.W.methodCall_KW (pl := pl) (thn (he.run pins s σ H _ I h) fun u s1 ⟨x, H1, I1, rx, ex, q⟩ => ?_) ht
  subst ex
  obtain rfl : u = Value.ref C := rx
  refine getmethsm_ok I1 c fun s2 I2 => ?_
  refine PySem.W.callWith_KW0 (first := []) (h₀ := X.base) I.ok.mod.kin c.kp hall ?_ hpl
  refine thn (hkw.run pos pins s2 σ H1 _ I2 q) fun ws s3 ⟨zs, H2, I3, rz, q2⟩ => ⟨I3.kIn, ?_⟩
  rw [hks]
  exact run_fnk (us := []) (vs := []) F hr hb hx I3 .nil rz q2
/-- the i-th slot holds the class at C: x(e, ..) makes an instance -/
def tMakeL (i : Nat) (C : Addr) (sp : Sp) (E : XK) (t : TA) : TE := fun σ H Q => σ[i]? = some (some (.ref C)) ∧ tMake C sp [] E t σ H Q
theorem pe_makeL {i : Nat} (M : Mk X.K C f) (F : FnOk X.prog X.w X.K X.mg X.base CX k f fd ps sp) (hr : Room (k + 1) X.A) (hN : X.N[i]? = some x) (hv : Vis X.env.scope x) (hb : Binds X.K fd ps []) (hx : Passes CX X E)
    (ha : PA X (e :: es) t) (hdb : (x == ("__debug__" : Str)) = false := by decide) (hcd : (x == ("__classdict__" : Str)) = false := by decide) (he : starEach (e :: es) X.env = (false, eval e X.env) :: starEach es X.env := by rfl) (hpl : (backTo pos (starEach es X.env)).any (·.1) = false := by rfl) :
    PE X (.Call (.Name x p) (e :: es) [] pos) (tMakeL i C sp E t) := by
  refine ⟨fun pins s σ H Q I h => ?_⟩
  obtain ⟨hs, ht⟩ := h
  refine wpAny_Call_Name_kw (thn ((pe_var (pos := p) hN hv hdb hcd).run pins s σ H (fun v H1 => v = .ref C ∧ H1 = H) I ⟨.ref C, hs, rfl, rfl⟩) fun u s1 ⟨v, H1, I1, r1, q1⟩ => ?_)
  obtain ⟨rfl, rfl⟩ := q1
  cases r1
  refine PySem.W.callWith_K (h₀ := X.base) I.ok.mod.kin M.kp (thn (ha.run pos pins s1 σ _ _ I1 ht) fun us s2 ⟨vs, H2, I2, r, q⟩ => ⟨I2.kIn, ?_⟩) he hpl
  exact run_make M F hr hb .nil hx I2 r q
end

/-! ### a classmethod called with keywords -/
theorem fnR_of {P : Program} {w : World} {K : PySem.W.Frag} {mg : Str → Option Value} {base : Heap} {CX : CXT} {k : Nat} {f : Addr} {fd : FuncData} {ps : List Str} {sp : Sp} (F : FnOk P w K mg base CX k f fd ps sp) (hb : Binds K fd ps []) : FnR P w K mg base CX k f sp := by
  have h := FnOk.raw F hb (.nil : Vals [] [])
  refine FnR.imp h fun vs H Q E q => ?_
  show sp (vs ++ []) H Q E
  rw [List.append_nil]
  exact q
section
variable {X : Cx} {CX : CXT} {k : Nat} {C p g : Addr} {mc : Value} {sp : Sp} {E : XK} {o : Expr} {kws : List Keyword} {m : Str} {pos apos : Pos} {ta : TE} {tk : TA} {pl : Sem Bool} {fd : FuncData} {ps ks : List Str} {gg : List Value → List Value → List Value} {gV : List V → List V → List V}
def tCMethK (C : Addr) (sp : Sp) (gV : List V → List V → List V) (E : XK) (ta : TE) (tk : TA) : TE := fun σ H Q => ta σ H fun x H1 => x = .ref C ∧ tk σ H1 fun zs H2 => sp (gV [.ref C] zs) H2 Q E
theorem pe_cmethK (he : PE X o ta) (r : ClX.CRead X.K C mc) (c : ClX.CMet X.K C mc m p g) (F : FnOk X.prog X.w X.K X.mg X.base CX k g fd ps sp) (hr : Room k X.A) (hb : KBinds X.K fd ps ks gg gV) (hx : Passes CX X E) (hkw : PK X kws tk)
    (hall : (backToKw pos (keywordEach kws X.env)).all (·.1.isSome) = true := by rfl) (hks : (backToKw pos (keywordEach kws X.env)).filterMap (·.1) = ks := by rfl)
    (hpl : ((backTo pos (starEach [] X.env)).any (·.1) || (backToKw pos (keywordEach kws X.env)).any (·.1.isNone)) = false := by rfl)
    (ht : eval (.Call (.Attribute o m apos) [] kws pos) X.env = (do
      let ov ← eval o X.env
      standAt apos.atName
      let (f, first) ← holding [ov] (getMethod ov m pl)
      callWith pos f first (backTo pos (starEach [] X.env)) (backToKw pos (keywordEach kws X.env))) := by rfl) :
    PE X (.Call (.Attribute o m apos) [] kws pos) (tCMethK C sp gV E ta tk) := by
  refine ⟨fun pins s σ H Q I h => ?_⟩
  refine PySem.W.methodCall_KW (pl := pl) (thn (he.run pins s σ H _ I h) fun u s1 ⟨x, H1, I1, rx, ex, q⟩ => ?_) ht
  subst ex
  obtain rfl : u = Value.ref C := rx
  refine ClX.getmethcm_ok I1 r c fun s2 I2 => ?_
  refine PySem.W.callWith_of (P := PySem.W.MethP X.K s1.heap.objs.size g (.ref C)) hpl (PySem.W.keeps_M c.fi) (PyProof.Rows.evalArgs_kw2_nil hall ?_)
  refine thn (hkw.run pos _ s2 σ H1 _ I2 q) fun ws s3 ⟨zs, H2, I3, rz, q2⟩ => ⟨⟨ClX.pin_at I3, I3.kIn⟩, ?_⟩
  rw [hks]
  have r2 := hb.rel (vs := [V.ref C]) (us := [Value.ref C]) (.cons rfl .nil) rz
  have hl : (gg [Value.ref C] ws).length = ps.length := by rw [← r2.length]; exact F.len _ _ _ _ q2
  have z : wpAny (model X.prog X.w) X.A (call (.ref s1.heap.objs.size) [] (ks.zip ws)) (EP X ((s1.heap.objs.size, PySem.W.methodObj (.ref g) (.ref C)) :: pins) σ Q) X.xe s3 := by
    refine wpAny_call (PySem.W.method_call (ClX.pin_at I3) (codeAny_mono (F.run X.A X.stack s3 H2 ⟨[.ref C], ks.zip ws⟩ (gg [.ref C] ws) (gV [.ref C] zs) Q E hr I3.env0 (hb.to s3 [.ref C] ws I3.kIn hl) r2 q2) fun r s' hq => ?_))
    cases r with
    | error e => exact hx _ σ H2 s3 e s' I3 hq
    | ok fl =>
      cases fl with
      | ret u => exact I3.after hq
      | next => exact False.elim hq
      | brk => exact False.elim hq
      | cont => exact False.elim hq
  exact thn z fun _ _ y => ClX.unpinE y
end

/-! ### keywords in the order of the parameters -/
def kperm_0_10 {α : Type} : List α → List α → List α
  | [], [x, y] => [y, x]
  | _, _ => []
def kperm_1_0 {α : Type} : List α → List α → List α
  | [c], [x] => [c, x]
  | _, _ => []
section
variable {K : PySem.W.Frag} {x qual : Str} {st : Stmt} {f : Addr} {fd : FuncData}
theorem kperm_0_10_kb {p0 p1 k0 k1 : Str} (F : Fun K x qual st f fd) (h : ∀ (kV doc pm : Value) (an : Option Addr) (cdv ct : Value) (u v : Value), bindArgs (PySem.W.fnOf x qual (defArgs st) (defBody st) (defScope st) .none kV doc pm an cdv ct) ⟨[], [(k0, u), (k1, v)]⟩ = pure [(p0, v), (p1, u)]) :
    KBinds K fd [p0, p1] [k0, k1] kperm_0_10 kperm_0_10 := by
  obtain ⟨oc, od, kV, doc, pm, an, cdv, ct, osl, rfl, lk, hcd⟩ := F.ex
  refine ⟨fun s us ws _ hl => ?_, fun {vs us zs ws} r r2 => ?_⟩
  · match us, ws, hl with
    | [], [u, v], _ => exact .of_eq (h kV doc pm an cdv ct u v)
    | [], [], hl => simp [kperm_0_10] at hl
    | [], [_], hl => simp [kperm_0_10] at hl
    | [], _ :: _ :: _ :: _, hl => simp [kperm_0_10] at hl
    | _ :: _, _, hl => simp [kperm_0_10] at hl
  · cases r with
    | cons _ _ => exact .nil
    | nil =>
      cases r2 with
      | nil => exact .nil
      | cons a r2 =>
        cases r2 with
        | nil => exact .nil
        | cons b r2 =>
          cases r2 with
          | nil => exact .cons b (.cons a .nil)
          | cons _ _ => exact .nil
theorem kperm_1_0_kb {p0 p1 k0 : Str} (F : Fun K x qual st f fd) (h : ∀ (kV doc pm : Value) (an : Option Addr) (cdv ct : Value) (u v : Value), bindArgs (PySem.W.fnOf x qual (defArgs st) (defBody st) (defScope st) .none kV doc pm an cdv ct) ⟨[u], [(k0, v)]⟩ = pure [(p0, u), (p1, v)]) :
    KBinds K fd [p0, p1] [k0] kperm_1_0 kperm_1_0 := by
  obtain ⟨oc, od, kV, doc, pm, an, cdv, ct, osl, rfl, lk, hcd⟩ := F.ex
  refine ⟨fun s us ws _ hl => ?_, fun {vs us zs ws} r r2 => ?_⟩
  · match us, ws, hl with
    | [u], [v], _ => exact .of_eq (h kV doc pm an cdv ct u v)
    | [], _, hl => simp [kperm_1_0] at hl
    | [_], [], hl => simp [kperm_1_0] at hl
    | [_], _ :: _ :: _, hl => simp [kperm_1_0] at hl
    | _ :: _ :: _, _, hl => simp [kperm_1_0] at hl
  · cases r with
    | nil => exact .nil
    | cons a r =>
      cases r with
      | cons _ _ => exact .nil
      | nil =>
        cases r2 with
        | nil => exact .nil
        | cons b r2 =>
          cases r2 with
          | nil => exact .cons a (.cons b .nil)
          | cons _ _ => exact .nil
end

/-! ### isinstance against an own class -/
structure TyC (K : PySem.W.Frag) (C : Addr) : Prop where
  cl : Cls K C
  hc : PySem.W.findIn K (.ref C) "__class__" = some (some (.builtin "object.__class__"))
  hn : PySem.W.specialIn K (.builtin "object.__class__") "__get__" = some (some (.builtin "getset_descriptor.__get__"))
  ht : PySem.W.takesIn K (.builtin "object.__class__") = some true
  mo : PySem.W.mroIn K C (.type "object") = some true
  ic : PySem.W.isClsIn K C = true
  ty : PySem.W.typeIn K (.ref C) = some (.type "type")
theorem TyC.at {K : PySem.W.Frag} {C : Addr} (T : TyC K C) {H : Hp} {a dx : Addr} {fs : List (Str × V)} (e : H a = some (.ins C dx fs)) : TyOf K H (.ref a) (.ref C) := .ins e T.cl T.hc T.hn T.ht T.mo
theorem kit_self {K : PySem.W.Frag} {C : Addr} : PySem.W.kitOne K (.ref C) (.ref C) = some true := by
  unfold PySem.W.kitOne
  rw [if_pos (by simp)]
theorem TyC.kit {K : PySem.W.Frag} {C : Addr} (T : TyC K C) {t : Value} {b : Bool} (h : PySem.W.subIn K t (.ref C) = some b) (hne : (t == .ref C) = false) : PySem.W.kitOne K t (.ref C) = some b := by
  unfold PySem.W.kitOne
  rw [if_neg (by rw [hne]; decide)]
  unfold PySem.W.kitCls
  have h1 : (PySem.W.clsIn K C).isSome = true := T.ic
  have e : ((PySem.W.clsIn K C).isSome && PySem.W.typeIn K (.ref C) == some (.type "type")) = true := by
    rw [h1, T.ty] <;> rfl
  show (if ((PySem.W.clsIn K C).isSome && PySem.W.typeIn K (.ref C) == some (.type "type")) = true then PySem.W.subIn K t (.ref C) else none) = some b
  rw [if_pos e, h]
end Hk

/-! The readings, step by step: one lemma a combinator, and words that try them. -/
namespace Hk
open PySem PySem.Spec PyProof.Rows L2

theorem cxK {CX : CXT} {P : Program} {w : World} {K : PySem.W.Frag} {mg : Str → Option Value} {base : Heap} {N : List Str} {qual : Str} {scope : Scope} {f : Addr} {cd : Value} {A : Around} {outer : List Env} {s : Shared} {H : Hp} {E : XK} :
    (cxOf CX P w K mg base N qual scope f cd A outer s H E).K = K := rfl

/-! ### names for the built-ins' readings -/
def rLenSeq (K : PySem.W.Frag) : List V → Hp → VK → Prop := fun xs H Q => ∃ p ys, xs = [.ref p] ∧ (SqL K H p ys ∨ SqT K H p ys) ∧ Q (.int ys.length) H
theorem call_lenSeq {X : Cx} : CallR X (.builtin "len") (rLenSeq X.K) := call_len_seq
def rLenStr : List V → Hp → VK → Prop := fun xs H Q => ∃ z, xs = [.str z] ∧ z.length ≤ sizeLine ∧ Q (.int z.length) H
theorem call_lenStr {X : Cx} : CallR X (.builtin "len") rLenStr := call_len_str
def rAbs : List V → Hp → VK → Prop := fun xs H Q => ∃ i, xs = [.int i] ∧ Q (.int (if i < 0 then -i else i)) H
theorem call_absI {X : Cx} : CallR X (.builtin "abs") rAbs := call_abs
def rInt1 : List V → Hp → VK → Prop := fun xs H Q => (∃ i, xs = [.int i] ∧ Q (.int i) H) ∨ ∃ k, xs = [.bl k] ∧ Q (.int (if k then 1 else 0)) H
theorem call_intI {X : Cx} : CallR X (.type "int") rInt1 := call_int1
def rMaxI : List V → Hp → VK → Prop := fun xs H Q => ∃ i j, xs = [.int i, .int j] ∧ Q (.int (if j > i then j else i)) H
theorem call_maxI {X : Cx} (hc : X.calm = true) : CallR X (.builtin "max") rMaxI := call_max2 hc
def rMinI : List V → Hp → VK → Prop := fun xs H Q => ∃ i j, xs = [.int i, .int j] ∧ Q (.int (if j < i then j else i)) H
theorem call_minI {X : Cx} (hc : X.calm = true) : CallR X (.builtin "min") rMinI := call_min2 hc
def rStrS : List V → Hp → VK → Prop := fun xs H Q => ∃ a, xs = [.str a] ∧ Q (.str a) H
theorem call_strS {X : Cx} : CallR X (.type "str") rStrS := SkE.call_str_str
def rListOf (K : PySem.W.Frag) : List V → Hp → VK → Prop := fun xs H Q => ∃ p ys, xs = [.ref p] ∧ (SqL K H p ys ∨ SqT K H p ys) ∧ ∀ l, H l = none → Q (.ref l) (upd H l (.lst ys))
theorem call_listOf {X : Cx} : CallR X (.type "list") (rListOf X.K) := call_list_of
def rTupOf (K : PySem.W.Frag) : List V → Hp → VK → Prop := fun xs H Q => ∃ p ys, xs = [.ref p] ∧ ((SqL K H p ys ∧ ∀ l, H l = none → Q (.ref l) (upd H l (.tup ys))) ∨ (SqT K H p ys ∧ Q (.ref p) H))
theorem call_tupOf {X : Cx} : CallR X (.type "tuple") (rTupOf X.K) := call_tuple_of
def rAddStr : R2 := fun x y H Q => ∃ i j, x = .str i ∧ y = .str j ∧ i.length + j.length ≤ sizeLine ∧ Q (.str (i ++ j)) H
theorem op_addStr {X : Cx} : OpR X (binaryOp .Add) rAddStr := op_add_str
def rInSign : R2 := fun x y H Q => ∃ (c : Nat) (z : Str), x = .str ⟨#[c]⟩ ∧ y = .str z ∧ Q (.bl (decide (c ∈ z.cps.toList))) H
theorem op_inSign {X : Cx} : OpR X (compareOp .In) rInSign := op_in_sign
def rNotInSign : R2 := fun x y H Q => ∃ (c : Nat) (z : Str), x = .str ⟨#[c]⟩ ∧ y = .str z ∧ Q (.bl (!decide (c ∈ z.cps.toList))) H
theorem op_notInSign {X : Cx} : OpR X (compareOp .NotIn) rNotInSign := op_notIn_sign
def rIsNone : R2 := fun x y H Q => y = .non ∧ Q (.bl (decide (x = .non))) H
def rNotNone : R2 := fun x y H Q => y = .non ∧ Q (.bl (!decide (x = .non))) H
theorem op_isNone {X : Cx} : OpR X (compareOp .Is) rIsNone := op_isN
theorem op_notNone {X : Cx} : OpR X (compareOp .IsNot) rNotNone := op_notN

/-! ### heaps -/
section
variable {H H1 H2 : Hp} {p q : Addr} {o u : HO}
theorem upd_new (hq : H q = none) (h : H p = some o) : upd H q u p = some o := by
  rw [upd_ne (ne_of_none h hq)]
  exact h
theorem upd_old (hq : p ≠ q) (h : H p = some o) : upd H q u p = some o := by
  rw [upd_ne hq]
  exact h
theorem upd_oldN (hq : p ≠ q) (h : H p = none) : upd H q u p = none := by
  rw [upd_ne hq]
  exact h
theorem ne_new (hq : H q = none) (h : H p = some o) : p ≠ q := ne_of_none h hq
theorem ne_new' (hq : H q = none) (h : H p = some o) : q ≠ p := (ne_of_none h hq).symm
theorem same_new (h : H q = none) : Same H (upd H q u) := fun b o e => upd_new h e
theorem same_mut (e : Same H H1) (h : H q = none) : Same H (upd H1 q u) := fun b o z => by
  rw [upd_ne (ne_of_none z h)]
  exact e b o z
theorem same_ext (e : Same H H1) (h : H1 q = none) : Same H (upd H1 q u) := e.trans (same_new h)
theorem same_step (e : Same H1 H2) (h : Same H H1) : Same H H2 := h.trans e
theorem same_at (e : Same H H1) (h : H p = some o) : H1 p = some o := e _ _ h
theorem same_none (e : Same H H1) (h : H1 q = none) : H q = none := e.free h
theorem sqL_of {K : PySem.W.Frag} {xs : List V} (h : H p = some (.lst xs)) : SqL K H p xs := .inl (.inl h)
theorem sqT_of {K : PySem.W.Frag} {xs : List V} (h : H p = some (.tup xs)) : SqT K H p xs := .inl (.inl h)
theorem sqT_same {K : PySem.W.Frag} {xs : List V} (e : Same H H1) (h : SqT K H p xs) : SqT K H1 p xs := by
  rcases h with (h | ⟨o, h⟩) | h
  · exact .inl (.inl (e _ _ h))
  · exact .inl (.inr ⟨o, e _ _ h⟩)
  · exact .inr h
/-- a list that is read, behind a store elsewhere -/
theorem sqL_upd {K : PySem.W.Frag} {xs : List V} (hq : p ≠ q) (h : SqL K H p xs) : SqL K (upd H q u) p xs := by
  rcases h with (h | ⟨o, h⟩) | h
  · exact .inl (.inl (upd_old hq h))
  · exact .inl (.inr ⟨o, upd_old hq h⟩)
  · exact .inr h
/-- .. of something that is no list -/
theorem sqL_new {K : PySem.W.Frag} {xs : List V} (hq : H q = none) (h : SqL K H p xs) : SqL K (upd H q u) p xs := (same_new hq).seq h
end

/-! ### readings -/
section
variable {K : PySem.W.Frag} {σ : L2.St} {H : Hp} {Q : VK} {ta tb te tv : TE} {t u : TT} {v x y : V} {D : Ends} {nx bk ct : L2.St → Hp → Prop} {rt : VK} {t1 t2 tu : TS} {tt : TA} {g : TG} {i j : Int} {n : Nat} {f : Str} {b : Bool} {QB : Bool → Hp → Prop} {QA : List V → Hp → Prop} {k : L2.St → Hp → Prop}
theorem rd_seq (h : t1 ⟨t2 ⟨nx, rt, bk, ct⟩, rt, bk, ct⟩ σ H) : tSeq t1 t2 ⟨nx, rt, bk, ct⟩ σ H := h
theorem rd_cut (M : L2.St → Hp → Prop) (h : t1 ⟨M, rt, bk, ct⟩ σ H) (q : ∀ σ' H', M σ' H' → t2 ⟨nx, rt, bk, ct⟩ σ' H') : Evl.tCut t1 t2 ⟨nx, rt, bk, ct⟩ σ H := ⟨M, h, q⟩
theorem rd_asgN {m : Nat} (h : te σ H fun x H1 => t2 ⟨nx, rt, bk, ct⟩ (σ.set m (some x)) H1) : tSeq (tAsg te (gName m)) t2 ⟨nx, rt, bk, ct⟩ σ H := h
theorem rd_next (h : nx σ H) : tNext ⟨nx, rt, bk, ct⟩ σ H := h
theorem rd_asg (h : te σ H fun x H1 => g x σ H1 nx) : tAsg te g ⟨nx, rt, bk, ct⟩ σ H := h
theorem rd_gname (h : k (σ.set n (some v)) H) : gName n v σ H k := h
theorem rd_drop (h : te σ H fun _ H1 => nx σ H1) : tDrop te ⟨nx, rt, bk, ct⟩ σ H := h
theorem rd_ret (h : te σ H rt) : tRet te ⟨nx, rt, bk, ct⟩ σ H := h
theorem rd_retN (h : rt .non H) : tRetN ⟨nx, rt, bk, ct⟩ σ H := h
theorem rd_brk (h : bk σ H) : tBreak ⟨nx, rt, bk, ct⟩ σ H := h
theorem rd_cont (h : ct σ H) : tCont ⟨nx, rt, bk, ct⟩ σ H := h
theorem rd_ifS {c : TT} (h : c σ H fun b H1 => if b = true then t1 ⟨nx, rt, bk, ct⟩ σ H1 else t2 ⟨nx, rt, bk, ct⟩ σ H1) : tIfS c t1 t2 ⟨nx, rt, bk, ct⟩ σ H := h
theorem rd_parA {n m : Nat} (h : tt σ H fun vs H1 => ∃ v w, vs = [v, w] ∧ nx ((σ.set n (some v)).set m (some w)) H1) : tPar n m tt ⟨nx, rt, bk, ct⟩ σ H := h
theorem rd_par3A {n m l : Nat} (h : tt σ H fun vs H1 => ∃ u v w, vs = [u, v, w] ∧ nx (((σ.set n (some u)).set m (some v)).set l (some w)) H1) : tPar3 n m l tt ⟨nx, rt, bk, ct⟩ σ H := h
theorem rd_par3 {u v w : V} {P : V → V → V → Prop} (h : P u v w) : ∃ u' v' w', [u, v, w] = [u', v', w'] ∧ P u' v' w' := ⟨u, v, w, rfl, h⟩
theorem rd_whileN {c : TT} {tb : TS} (W : Nat → L2.St → Hp → Prop) (m : Nat) (w0 : W m σ H) (hs : ∀ m σ H, W m σ H → c σ H fun b H1 => if b = true then ∃ N : L2.St → Hp → Prop, (∀ σ' H', N σ' H' → ∃ m', m' < m ∧ W m' σ' H') ∧ tb ⟨N, rt, nx, N⟩ σ H1 else nx σ H1) : tWhile c tb ⟨nx, rt, bk, ct⟩ σ H := ⟨W, ⟨m, w0⟩, hs⟩
theorem rd_par2 {v w : V} {P : V → V → Prop} (h : P v w) : ∃ v' w', [v, w] = [v', w'] ∧ P v' w' := ⟨v, w, rfl, h⟩
theorem rd_var (e : σ[n]? = some (some v)) (h : Q v H) : tVar n σ H Q := ⟨v, e, h⟩
theorem rd_c (h : Q v H) : tC v σ H Q := h
theorem rd_op {r : R2} (h : ta σ H fun x H1 => tb σ H1 fun y H2 => r x y H2 Q) : tOp r ta tb σ H Q := h
theorem rd_un {r : V → Hp → VK → Prop} (h : ta σ H fun x H1 => r x H1 Q) : tUn r ta σ H Q := h
theorem rd_cb {r : List V → Hp → VK → Prop} (h : tt σ H fun vs H1 => r vs H1 Q) : tCB r tt σ H Q := h
theorem rd_cons (h : te σ H fun x H1 => tt σ H1 fun xs H2 => QA (x :: xs) H2) : tCons te tt σ H QA := h
theorem rd_nil (h : QA [] H) : tNil σ H QA := h
theorem rd_test (h : te σ H fun x H' => ∃ k, x = .bl k ∧ QB k H') : tTest te σ H QB := h
theorem rd_B (h : te σ H fun x H' => ∃ k, x = .bl k ∧ QB k H') : tB te σ H QB := h
theorem rd_bl {P : Bool → Prop} (h : P b) : ∃ k, V.bl b = .bl k ∧ P k := ⟨b, rfl, h⟩
theorem rd_and (h : t σ H fun c H1 => if c = true then u σ H1 QB else QB false H1) : tAnd t u σ H QB := h
theorem rd_or (h : t σ H fun c H1 => if c = true then QB true H1 else u σ H1 QB) : tOr t u σ H QB := h
theorem rd_not (h : t σ H fun c H1 => QB (!c) H1) : tNot t σ H QB := h
theorem rd_andV (h : ta σ H fun x H1 => ∃ c, x = .bl c ∧ if c = true then tb σ H1 Q else Q (.bl false) H1) : tAndV ta tb σ H Q := h
theorem rd_orV (h : ta σ H fun x H1 => ∃ c, x = .bl c ∧ if c = true then Q (.bl true) H1 else tb σ H1 Q) : tOrV ta tb σ H Q := h
theorem rd_notV (h : ta σ H fun x H1 => ∃ c, x = .bl c ∧ Q (.bl (!c)) H1) : tNotV ta σ H Q := h
theorem rd_if (h : t σ H fun c H1 => if c = true then ta σ H1 Q else tb σ H1 Q) : tIf t ta tb σ H Q := h
theorem rd_I0 {g : Int → Int → V} (h : Q (g i j) H) : rI0 g (.int i) (.int j) H Q := ⟨i, j, rfl, rfl, h⟩
theorem rd_I {C : Int → Int → Prop} {g : Int → Int → V} (c : C i j) (h : Q (g i j) H) : rI C g (.int i) (.int j) H Q := ⟨i, j, rfl, rfl, c, h⟩
theorem rd_mod (c : 0 < j) (h : Q (.int (i % j)) H) : rI (fun _ j => 0 < j) (fun i j => .int (i % j)) (.int i) (.int j) H Q := ⟨i, j, rfl, rfl, c, h⟩
theorem cdivW (h : 0 < j) (hb : j < 2 ^ 100) : CDivW i j := wide_div (b := 100) h (by
  have e : ((2 : Int) ^ 100) = ((2 ^ 100 : Nat) : Int) := by decide
  rw [e] at hb
  omega) (by decide) (by decide)
theorem rd_div (c : 0 < j) (c2 : j < 2 ^ 100) (h : Q (.int (i / j)) H) : rI CDivW (fun i j => .int (i / j)) (.int i) (.int j) H Q := ⟨i, j, rfl, rfl, cdivW c c2, h⟩
theorem rd_mulR (c : -(2 ^ 64) < j) (c2 : j < 2 ^ 64) (h : Q (.int (i * j)) H) : rI CMul (fun i j => .int (i * j)) (.int i) (.int j) H Q := ⟨i, j, rfl, rfl, .inr ⟨c, c2⟩, h⟩
theorem rd_mulL (c : -(2 ^ 64) < i) (c2 : i < 2 ^ 64) (h : Q (.int (i * j)) H) : rI CMul (fun i j => .int (i * j)) (.int i) (.int j) H Q := ⟨i, j, rfl, rfl, .inl ⟨c, c2⟩, h⟩
theorem rd_pow (c : CPow i j) (h : Q (.int (i ^ j.toNat)) H) : rI CPow (fun i j => .int (i ^ j.toNat)) (.int i) (.int j) H Q := ⟨i, j, rfl, rfl, c, h⟩
theorem rd_U {g : Int → V} (h : Q (g i) H) : rU g (.int i) H Q := ⟨i, rfl, h⟩
theorem rd_eq (e : scal x y = true) (h : Q (.bl (decide (x = y))) H) : rEq x y H Q := ⟨e, h⟩
theorem rd_ne (e : scal x y = true) (h : Q (.bl (!decide (x = y))) H) : rNe x y H Q := ⟨e, h⟩
theorem rd_isNone (h : Q (.bl (decide (x = .non))) H) : rIsNone x .non H Q := ⟨rfl, h⟩
theorem rd_notNone (h : Q (.bl (!decide (x = .non))) H) : rNotNone x .non H Q := ⟨rfl, h⟩
theorem rd_ixL {p : Addr} {xs : List V} (h : SqL K H p xs) (e : atI xs i = some v) (q : Q v H) : rIxL K (.ref p) (.int i) H Q := ⟨p, xs, i, v, rfl, rfl, h, e, q⟩
theorem rd_ixT {p : Addr} {xs : List V} (h : SqT K H p xs) (e : atI xs i = some v) (q : Q v H) : rIxT K (.ref p) (.int i) H Q := ⟨p, xs, i, v, rfl, rfl, h, e, q⟩
theorem rd_ixS {z : Str} {c : Nat} (hz : z.length ≤ sizeLine) (e : atI z.cps.toList i = some c) (q : Q (.str ⟨#[c]⟩) H) : rIxS (.str z) (.int i) H Q := ⟨z, i, c, rfl, rfl, hz, e, q⟩
theorem rd_lenL {p : Addr} {xs : List V} (h : SqL K H p xs) (q : Q (.int xs.length) H) : rLenSeq K [.ref p] H Q := ⟨p, xs, rfl, .inl h, q⟩
theorem rd_lenT {p : Addr} {xs : List V} (h : SqT K H p xs) (q : Q (.int xs.length) H) : rLenSeq K [.ref p] H Q := ⟨p, xs, rfl, .inr h, q⟩
theorem rd_lenS {z : Str} (hz : z.length ≤ sizeLine) (q : Q (.int z.length) H) : rLenStr [.str z] H Q := ⟨z, rfl, hz, q⟩
theorem rd_abs (q : Q (.int (if i < 0 then -i else i)) H) : rAbs [.int i] H Q := ⟨i, rfl, q⟩
theorem rd_int (q : Q (.int i) H) : rInt1 [.int i] H Q := .inl ⟨i, rfl, q⟩
theorem rd_max (q : Q (.int (if j > i then j else i)) H) : rMaxI [.int i, .int j] H Q := ⟨i, j, rfl, q⟩
theorem rd_min (q : Q (.int (if j < i then j else i)) H) : rMinI [.int i, .int j] H Q := ⟨i, j, rfl, q⟩
theorem rd_strS {z : Str} (q : Q (.str z) H) : rStrS [.str z] H Q := ⟨z, rfl, q⟩
theorem rd_listL {p : Addr} {xs : List V} (h : SqL K H p xs) (q : ∀ l, H l = none → Q (.ref l) (upd H l (.lst xs))) : rListOf K [.ref p] H Q := ⟨p, xs, rfl, .inl h, q⟩
theorem rd_listT {p : Addr} {xs : List V} (h : SqT K H p xs) (q : ∀ l, H l = none → Q (.ref l) (upd H l (.lst xs))) : rListOf K [.ref p] H Q := ⟨p, xs, rfl, .inr h, q⟩
theorem rd_tupL {p : Addr} {xs : List V} (h : SqL K H p xs) (q : ∀ l, H l = none → Q (.ref l) (upd H l (.tup xs))) : rTupOf K [.ref p] H Q := ⟨p, xs, rfl, .inl ⟨h, q⟩⟩
theorem rd_tupT {p : Addr} {xs : List V} (h : SqT K H p xs) (q : Q (.ref p) H) : rTupOf K [.ref p] H Q := ⟨p, xs, rfl, .inr ⟨h, q⟩⟩
theorem rd_addS {z w : Str} (hz : z.length + w.length ≤ sizeLine) (q : Q (.str (z ++ w)) H) : rAddStr (.str z) (.str w) H Q := ⟨z, w, rfl, rfl, hz, q⟩
theorem rd_inSign {c : Nat} {z : Str} (q : Q (.bl (decide (c ∈ z.cps.toList))) H) : rInSign (.str ⟨#[c]⟩) (.str z) H Q := ⟨c, z, rfl, rfl, q⟩
theorem rd_notInSign {c : Nat} {z : Str} (q : Q (.bl (!decide (c ∈ z.cps.toList))) H) : rNotInSign (.str ⟨#[c]⟩) (.str z) H Q := ⟨c, z, rfl, rfl, q⟩
theorem rd_tup (h : tt σ H fun xs H1 => xs.length ≤ sizeLine ∧ ∀ p, H1 p = none → Q (.ref p) (upd H1 p (.tup xs))) : tTup tt σ H Q := h
theorem rd_lst (h : tt σ H fun xs H1 => xs.length ≤ sizeLine ∧ ∀ p, H1 p = none → Q (.ref p) (upd H1 p (.lst xs))) : tLst tt σ H Q := h
theorem sz_of {n : Nat} (h : n ≤ 100000) : n ≤ sizeLine := Nat.le_trans h (by decide)
theorem sz_lt {n : Nat} (h : n < 100000) : n < sizeLine := Nat.lt_of_lt_of_le h (by decide)
theorem rd_new {xs : List V} {P : Addr → Prop} (e : xs.length ≤ sizeLine) (h : ∀ p, P p) : xs.length ≤ sizeLine ∧ ∀ p, P p := ⟨e, h⟩
theorem rd_slL {p : Addr} {xs : List V} {lo hi : Option Int} (h : SqL K H p xs) (q : ∀ l, H l = none → Q (.ref l) (upd H l (.lst (cutV xs lo hi)))) : rSlL K (.ref p) lo hi H Q := ⟨p, xs, rfl, h, q⟩
theorem rd_slS {z : Str} {lo hi : Option Int} (hz : z.length ≤ sizeLine) (q : Q (.str (cutS z lo hi)) H) : rSlS (.str z) lo hi H Q := ⟨z, rfl, hz, q⟩
theorem rd_sl {r : V → Option Int → Option Int → Hp → VK → Prop} {tl th : TO} (h : te σ H fun x H1 => tl σ H1 fun l H2 => th σ H2 fun u H3 => r x l u H3 Q) : tSl r te tl th σ H Q := h
theorem rd_noPart {P : Option Int → Hp → Prop} (h : P none H) : tNoPart σ H P := h
theorem rd_part {P : Option Int → Hp → Prop} (h : te σ H fun x H1 => ∃ i, x = .int i ∧ P (some i) H1) : tPart te σ H P := h
theorem rd_isInt {P : Int → Prop} (h : P i) : ∃ k, V.int i = .int k ∧ P k := ⟨i, rfl, h⟩
/-- an attribute -/
def FldK (K : PySem.W.Frag) (f : Str) (x : V) (H : Hp) (Q : VK) : Prop := ∃ a C dx fs v, x = .ref a ∧ H a = some (.ins C dx fs) ∧ Cls K C ∧ NoAttr K C f ∧ fs.lookup f = some v ∧ Q v H
theorem rd_fld (h : ta σ H fun x H1 => FldK K f x H1 Q) : tFld K ta f σ H Q := h
theorem rd_fldK {a C dx : Addr} {fs : List (Str × V)} (e : H a = some (.ins C dx fs)) (c : Cls K C) (n : NoAttr K C f) (l : fs.lookup f = some v) (q : Q v H) : FldK K f (.ref a) H Q := ⟨a, C, dx, fs, v, rfl, e, c, n, l, q⟩
def SFldK (K : PySem.W.Frag) (f : Str) (y x : V) (H : Hp) (P : Hp → Prop) : Prop := ∃ a C dx fs, x = .ref a ∧ H a = some (.ins C dx fs) ∧ Cls K C ∧ NoAttr K C f ∧ fs.length < 1000 ∧ P (upd H a (.ins C dx (putF f y fs)))
theorem rd_sfld (h : tv σ H fun y H1 => ta σ H1 fun x H2 => SFldK K f y x H2 (nx σ)) : sFld K ta tv f ⟨nx, rt, bk, ct⟩ σ H := h
theorem rd_sfldK {a C dx : Addr} {fs : List (Str × V)} {P : Hp → Prop} (e : H a = some (.ins C dx fs)) (c : Cls K C) (n : NoAttr K C f) (l : fs.length < 1000) (q : P (upd H a (.ins C dx (putF f y fs)))) : SFldK K f y (.ref a) H P := ⟨a, C, dx, fs, rfl, e, c, n, l, q⟩
/-- e.f += n, ints -/
theorem rd_sfldAdd {a C dx : Addr} {fs : List (Str × V)} (ha : ta σ H fun x H1 => x = .ref a ∧ H1 = H) (e : H a = some (.ins C dx fs)) (c : Cls K C) (n : NoAttr K C f) (l : fs.lookup f = some (.int i)) (hv : tv σ H fun y H1 => y = .int j ∧ H1 = H)
    (mt : ∀ Q Q' : VK, (∀ v H, Q v H → Q' v H) → tv σ H Q → tv σ H Q') (ma : ∀ Q Q' : VK, (∀ v H, Q v H → Q' v H) → ta σ H Q → ta σ H Q') (hl : fs.length < 1000) (q : D.nx σ (upd H a (.ins C dx (putF f (.int (i + j)) fs)))) : sFldAug K ta tv rAdd f D σ H :=
  ma _ _ (fun x H1 ⟨ex, eh⟩ => by
    subst ex eh
    refine ⟨a, C, dx, fs, .int i, rfl, e, c, n, l, mt _ _ (fun y H2 ⟨ey, eh⟩ => ?_) hv⟩
    subst ey eh
    exact ⟨i, j, rfl, rfl, dx, fs, e, hl, q⟩) ha
def AugK (K : PySem.W.Frag) (f : Str) (tv : TE) (rd : V → V → Hp → VK → Prop) (σ : L2.St) (x : V) (H1 : Hp) (P : Hp → Prop) : Prop := ∃ a C dx fs v, x = .ref a ∧ H1 a = some (.ins C dx fs) ∧ Cls K C ∧ NoAttr K C f ∧ fs.lookup f = some v ∧
  tv σ H1 fun y H2 => rd v y H2 fun z H3 => ∃ dx' fs', H3 a = some (.ins C dx' fs') ∧ fs'.length < 1000 ∧ P (upd H3 a (.ins C dx' (putF f z fs')))
theorem rd_aug {rd : V → V → Hp → VK → Prop} (h : ta σ H fun x H1 => AugK K f tv rd σ x H1 (nx σ)) : sFldAug K ta tv rd f ⟨nx, rt, bk, ct⟩ σ H := h
theorem rd_augK {rd : V → V → Hp → VK → Prop} {a C dx : Addr} {fs : List (Str × V)} {P : Hp → Prop} (e : H a = some (.ins C dx fs)) (c : Cls K C) (n : NoAttr K C f) (l : fs.lookup f = some v)
    (q : tv σ H fun y H2 => rd v y H2 fun z H3 => ∃ dx' fs', H3 a = some (.ins C dx' fs') ∧ fs'.length < 1000 ∧ P (upd H3 a (.ins C dx' (putF f z fs')))) : AugK K f tv rd σ (.ref a) H P := ⟨a, C, dx, fs, v, rfl, e, c, n, l, q⟩
theorem rd_rAdd (q : Q (.int (i + j)) H) : rAdd (.int i) (.int j) H Q := ⟨i, j, rfl, rfl, q⟩
theorem rd_augE {a C dx : Addr} {fs : List (Str × V)} {P : Addr → List (Str × V) → Prop} (e : H a = some (.ins C dx fs)) (l : fs.length < 1000) (q : P dx fs) : ∃ dx' fs', H a = some (.ins C dx' fs') ∧ fs'.length < 1000 ∧ P dx' fs' := ⟨dx, fs, e, l, q⟩
/-- calls -/
theorem rd_call {sp : Sp} {E : XK} (h : tt σ H fun vs H1 => sp (vs ++ []) H1 Q E) : tCall sp [] E tt σ H Q := h
def MethK (C : Addr) (m : Str) (sp : Sp) (E : XK) (t : TA) (σ : L2.St) (x : V) (H1 : Hp) (Q : VK) : Prop := ∃ a dx fs, x = .ref a ∧ H1 a = some (.ins C dx fs) ∧ fs.lookup m = none ∧ t σ H1 fun vs H2 => sp (x :: (vs ++ [])) H2 Q E
theorem rd_meth {C : Addr} {m : Str} {sp : Sp} {E : XK} (h : ta σ H fun x H1 => MethK C m sp E tt σ x H1 Q) : tMeth C m sp [] E ta tt σ H Q := h
theorem rd_methK {C a dx : Addr} {m : Str} {sp : Sp} {E : XK} {fs : List (Str × V)} (e : H a = some (.ins C dx fs)) (l : fs.lookup m = none) (q : tt σ H fun vs H2 => sp (.ref a :: (vs ++ [])) H2 Q E) : MethK C m sp E tt σ (.ref a) H Q := ⟨a, dx, fs, rfl, e, l, q⟩
theorem rd_make {C : Addr} {sp : Sp} {E : XK} (h : tt σ H fun vs H1 => ∀ x dx, H1 x = none → H1 dx = none → dx ≠ x → sp (.ref x :: (vs ++ [])) (upd (upd H1 dx (.own x)) x (.ins C dx [])) (fun v H2 => v = .non ∧ Q (.ref x) H2) E) : tMake C sp [] E tt σ H Q := h
theorem rd_makeL {C : Addr} {sp : Sp} {E : XK} (e : σ[n]? = some (some (.ref C))) (h : tMake C sp [] E tt σ H Q) : tMakeL n C sp E tt σ H Q := ⟨e, h⟩
theorem rd_smeth {C : Addr} {sp : Sp} {E : XK} (h : ta σ H fun x H1 => x = .ref C ∧ tt σ H1 fun vs H2 => sp (vs ++ []) H2 Q E) : tSMeth C sp E ta tt σ H Q := h
theorem rd_isC {C : Addr} {P : Prop} (h : P) : V.ref C = .ref C ∧ P := ⟨rfl, h⟩
theorem rd_smethK {C : Addr} {sp : Sp} {E : XK} {gV : List V → List V → List V} (h : ta σ H fun x H1 => x = .ref C ∧ tt σ H1 fun zs H2 => sp (gV [] zs) H2 Q E) : tSMethK C sp gV E ta tt σ H Q := h
theorem rd_cmeth {C : Addr} {sp : Sp} {E : XK} (h : ta σ H fun x H1 => x = .ref C ∧ tt σ H1 fun vs H2 => sp (.ref C :: vs) H2 Q E) : ClX.tCMeth C sp E ta tt σ H Q := h
theorem rd_cmethK {C : Addr} {sp : Sp} {E : XK} {gV : List V → List V → List V} (h : ta σ H fun x H1 => x = .ref C ∧ tt σ H1 fun zs H2 => sp (gV [.ref C] zs) H2 Q E) : tCMethK C sp gV E ta tt σ H Q := h
/-- methods of built-in types -/
def BmK (K : PySem.W.Frag) (T : String) (r : V → List V → Hp → VK → Prop) (t : TA) (σ : L2.St) (x : V) (H1 : Hp) (Q : VK) : Prop := tyV K T x H1 ∧ t σ H1 fun xs H2 => r x xs H2 Q
theorem rd_bm {T : String} {r : V → List V → Hp → VK → Prop} (h : ta σ H fun x H1 => BmK K T r tt σ x H1 Q) : tBM K T r ta tt σ H Q := h
theorem rd_bmL {r : V → List V → Hp → VK → Prop} {p : Addr} {xs : List V} (e : H p = some (.lst xs)) (q : tt σ H fun xs H2 => r (.ref p) xs H2 Q) : BmK K "list" r tt σ (.ref p) H Q := ⟨.inl ⟨rfl, _, SqL.of e⟩, q⟩
def Bm0K (K : PySem.W.Frag) (T : String) (r : V → List V → Hp → VK → Prop) (x : V) (H1 : Hp) (Q : VK) : Prop := tyV K T x H1 ∧ r x [] H1 Q
theorem rd_bm0 {T : String} {r : V → List V → Hp → VK → Prop} (h : ta σ H fun x H1 => Bm0K K T r x H1 Q) : tBM0 K T r ta σ H Q := h
theorem rd_bm0L {r : V → List V → Hp → VK → Prop} {p : Addr} {xs : List V} (e : H p = some (.lst xs)) (q : r (.ref p) [] H Q) : Bm0K K "list" r (.ref p) H Q := ⟨.inl ⟨rfl, _, SqL.of e⟩, q⟩
theorem rd_append {p : Addr} {xs : List V} (e : H p = some (.lst xs)) (l : xs.length < sizeLine) (q : Q .non (upd H p (.lst (xs ++ [y])))) : rAppend (.ref p) [y] H Q := ⟨p, xs, y, rfl, rfl, e, l, q⟩
theorem rd_clear {p : Addr} {xs : List V} (e : H p = some (.lst xs)) (q : Q .non (upd H p (.lst []))) : rClear (.ref p) [] H Q := ⟨p, xs, rfl, rfl, e, q⟩
theorem rd_pop {p : Addr} {xs : List V} (e : H p = some (.lst xs)) (l : xs[xs.length - 1]? = some y) (q : Q y (upd H p (.lst xs.dropLast))) : rPop (.ref p) [] H Q := ⟨p, xs, y, rfl, rfl, e, l, q⟩
theorem rd_popAt {p : Addr} {xs : List V} {k : Nat} (e : H p = some (.lst xs)) (hk : xs[k]? = some y) (hb : xs.length ≤ 100000) (q : Q y (upd H p (.lst (xs.eraseIdx k)))) : rPopAt (.ref p) [.int (k : Nat)] H Q := by
  have hl := (List.getElem?_eq_some_iff.mp hk).1
  refine ⟨p, xs, (k : Nat), k, y, rfl, rfl, e, by omega, by omega, ?_, hk, q⟩
  unfold seqIndex?
  have hn : ¬ ((k : Nat) : Int) < 0 := by omega
  simp only [if_neg hn]
  simp
  omega
theorem rd_cat {p r : Addr} {xs ys : List V} (e : H p = some (.lst xs)) (e2 : H r = some (.lst ys)) (hb : xs.length + ys.length ≤ 100000) (q : ∀ l, H l = none → Q (.ref l) (upd H l (.lst (xs ++ ys)))) : rCat (.ref p) (.ref r) H Q := ⟨p, r, xs, ys, rfl, rfl, e, e2, sz_of hb, q⟩
theorem rd_all {p : Addr} {bs : List Bool} (h : SqL K H p (bs.map V.bl)) (q : Q (.bl (bs.all id)) H) : rAll K [.ref p] H Q := ⟨p, bs, rfl, h, q⟩
theorem rd_m1 {r : V → List V → Hp → VK → Prop} (h : ta σ H fun x H1 => (∃ a, x = .str a) ∧ tb σ H1 fun y H2 => r x [y] H2 Q) : tM1 r ta tb σ H Q := h
theorem rd_isStr {z : Str} {P : Prop} (h : P) : (∃ a, V.str z = .str a) ∧ P := ⟨⟨z, rfl⟩, h⟩
def CValK (K : PySem.W.Frag) (f : Str) (x : V) (H : Hp) (Q : VK) : Prop := ∃ C mc v u, x = .ref C ∧ ClX.CRead K C mc ∧ ClX.CVal K C mc f v u ∧ Q v H
theorem rd_cval (h : ta σ H fun x H1 => CValK K f x H1 Q) : ClX.tCVal K ta f σ H Q := h
theorem rd_cvalK {C : Addr} {mc u : Value} (r : ClX.CRead K C mc) (c : ClX.CVal K C mc f v u) (q : Q v H) : CValK K f (.ref C) H Q := ⟨C, mc, v, u, rfl, r, c, q⟩
theorem rd_setL {p : Addr} {xs : List V} {m : Nat} {P : Hp → Prop} (e : H p = some (.lst xs)) (l : ixN xs.length i = some m) (q : P (upd H p (.lst (xs.set m v)))) : rSetL (.ref p) (.int i) v H P := ⟨p, xs, i, m, rfl, rfl, e, l, q⟩
theorem rd_gsub {to ti : TE} {ts : TSet} (h : to σ H fun o H1 => ti σ H1 fun i H2 => ts o i v H2 fun H3 => k σ H3) : gSub to ti ts v σ H k := h
theorem rd_gtup {a : Addr} {xs : List V} {m : Nat} {ts : TGs} (e : SqT K H a xs) (l : xs.length = m) (q : ts xs σ H k) : gTup K m ts (.ref a) σ H k := ⟨a, xs, rfl, e, l, q⟩
theorem rd_gcons {r : List V} {ts : TGs} (h : g v σ H fun σ' H' => ts r σ' H' k) : gCons g ts (v :: r) σ H k := ⟨v, r, rfl, h⟩
theorem rd_gnil (h : k σ H) : gNil [] σ H k := ⟨rfl, h⟩
theorem rd_isi {x c : V} {t u : Value} (k : ClsV c u) (ty : TyX K H x t) (e : PySem.W.kitOne K t u = some b) (q : Q (.bl b) H) : rIsi K [x, c] H Q := ⟨x, c, t, u, b, rfl, k, ty, e, q⟩
theorem rd_inSeqL {p : Addr} {xs : List V} {neg : Bool} (h : SqL K H p xs) (fx : flatV x = true) (fa : xs.all flatV = true) (q : Q (.bl (if neg then !inV x xs else inV x xs)) H) : rIn K neg x (.ref p) H Q := ⟨p, xs, rfl, .inl h, fx, fa, q⟩
theorem rd_inSeqT {p : Addr} {xs : List V} {neg : Bool} (h : SqT K H p xs) (fx : flatV x = true) (fa : xs.all flatV = true) (q : Q (.bl (if neg then !inV x xs else inV x xs)) H) : rIn K neg x (.ref p) H Q := ⟨p, xs, rfl, .inr h, fx, fa, q⟩
theorem rd_eqD {d e : PyData} (hx : Dp K H x d) (hy : Dp K H y e) (s1 : SeqAt.shaped d = true) (s2 : SeqAt.shaped e = true) (q : Q (.bl (PyData.eqv d e)) H) : rEqD K x y H Q := ⟨d, e, hx, hy, s1, s2, q⟩
theorem rd_neD {d e : PyData} (hx : Dp K H x d) (hy : Dp K H y e) (s1 : SeqAt.shaped d = true) (s2 : SeqAt.shaped e = true) (q : Q (.bl (!PyData.eqv d e)) H) : rNeD K x y H Q := ⟨d, e, hx, hy, s1, s2, q⟩
theorem ifT {A B : Prop} (e : b = true) (h : A) : if b = true then A else B := by
  rw [if_pos e]
  exact h
theorem ifF {A B : Prop} (e : b = false) (h : B) : if b = true then A else B := by
  rw [e, if_neg Bool.false_ne_true]
  exact h
theorem ifB {A B : Prop} (h1 : b = true → A) (h2 : b = false → B) : if b = true then A else B := by
  cases b with
  | true => exact ifT rfl (h1 rfl)
  | false => exact ifF rfl (h2 rfl)
/-- an if on a decision -/
theorem ifD {c : Prop} [Decidable c] {A B : Prop} (h1 : c → A) (h2 : ¬ c → B) : if decide c = true then A else B := by
  by_cases h : c
  · exact ifT (decide_eq_true h) (h1 h)
  · exact ifF (decide_eq_false h) (h2 h)
theorem ifN {c : Prop} [Decidable c] {A B : Prop} (h1 : ¬ c → A) (h2 : c → B) : if (!decide c) = true then A else B := by
  by_cases h : c
  · exact ifF (by rw [decide_eq_true h]; rfl) (h2 h)
  · exact ifT (by rw [decide_eq_false h]; rfl) (h1 h)
end

/-! ### loops -/
def ForK (J : It) (g : TG) (tb : TS) (D : Ends) (σ : L2.St) (H1 : Hp) : Prop := ∃ W : Nat → Nat → L2.St → Hp → Prop, (∃ m, W 0 m σ H1) ∧ ∀ i m σ H, W i m σ H →
  (J.stop i H ∧ D.nx σ H) ∨ (J.go i H ∧ ∃ N : L2.St → Hp → Prop, (∀ σ' H', N σ' H' → ∃ m', m' < m ∧ W (i + 1) m' σ' H') ∧ ∀ x H', J.yld i H x H' → g x σ H' fun σ2 H2 => tb { D with nx := N, ct := N, bk := D.nx } σ2 H2)
section
variable {K : PySem.W.Frag} {σ : L2.St} {H : Hp} {g : TG} {tb : TS} {D : Ends} {nx bk ct : L2.St → Hp → Prop} {rt : VK} {a : Addr} {xs : List V} {tl : TE} {ta : TA} {R : It → Hp → Prop}
theorem rd_for {wi : TI} (h : wi σ H fun J H1 => ForK J g tb ⟨nx, rt, bk, ct⟩ σ H1) : tFor wi g tb ⟨nx, rt, bk, ct⟩ σ H := h
def IList (K : PySem.W.Frag) (x : V) (H : Hp) (R : It → Hp → Prop) : Prop := ∃ a, x = .ref a ∧ (∃ xs, SqL K H a xs) ∧ R (Itl K a) H
def ITup (K : PySem.W.Frag) (x : V) (H : Hp) (R : It → Hp → Prop) : Prop := ∃ a, x = .ref a ∧ (∃ xs, SqT K H a xs) ∧ R (Itt K a) H
theorem rd_iList (h : tl σ H fun x H1 => IList K x H1 R) : iList K tl σ H R := h
theorem rd_IList (h : SqL K H a xs) (q : R (Itl K a) H) : IList K (.ref a) H R := ⟨a, rfl, ⟨xs, h⟩, q⟩
theorem rd_iTup (h : tl σ H fun x H1 => ITup K x H1 R) : iTup K tl σ H R := h
theorem rd_ITup (h : SqT K H a xs) (q : R (Itt K a) H) : ITup K (.ref a) H R := ⟨a, rfl, ⟨xs, h⟩, q⟩
def IEnum (K : PySem.W.Frag) (vs : List V) (H : Hp) (R : It → Hp → Prop) : Prop := ∃ a xs, vs = [.ref a] ∧ SqL K H a xs ∧ R (Ite K a) H
theorem rd_iEnum (h : ta σ H fun vs H1 => IEnum K vs H1 R) : iEnum K ta σ H R := h
theorem rd_IEnum (h : SqL K H a xs) (q : R (Ite K a) H) : IEnum K [.ref a] H R := ⟨a, xs, rfl, h, q⟩
def IRng1 (vs : List V) (H : Hp) (R : It → Hp → Prop) : Prop := ∃ j : Int, vs = [.int j] ∧ -(2 ^ 62) ≤ j ∧ j < 2 ^ 62 ∧ R (Itr 0 j.toNat) H
theorem rd_iRng1 (h : ta σ H fun vs H1 => IRng1 vs H1 R) : iRng1 ta σ H R := h
theorem rd_IRng1 {j : Int} (h : -(2 ^ 62) ≤ j) (h2 : j < 2 ^ 62) (q : R (Itr 0 j.toNat) H) : IRng1 [.int j] H R := ⟨j, rfl, h, h2, q⟩
def IRng2 (vs : List V) (H : Hp) (R : It → Hp → Prop) : Prop := ∃ i j : Int, vs = [.int i, .int j] ∧ (-(2 ^ 62) ≤ i ∧ i < 2 ^ 62 ∧ -(2 ^ 62) ≤ j ∧ j < 2 ^ 62) ∧ R (Itr i (j - i).toNat) H
theorem rd_iRng2 (h : ta σ H fun vs H1 => IRng2 vs H1 R) : iRng2 ta σ H R := h
theorem rd_IRng2 {i j : Int} (h : -(2 ^ 62) ≤ i ∧ i < 2 ^ 62 ∧ -(2 ^ 62) ≤ j ∧ j < 2 ^ 62) (q : R (Itr i (j - i).toNat) H) : IRng2 [.int i, .int j] H R := ⟨i, j, rfl, h, q⟩
theorem fk_list (Pv : Nat → L2.St → Hp → Prop) (h0 : Pv 0 σ H) (hl : ∀ i σ H, i ≤ xs.length → Pv i σ H → SqL K H a xs)
    (hs : ∀ i x σ H, xs[i]? = some x → Pv i σ H → g x σ H fun σ2 H2 => tb ⟨Pv (i + 1), rt, nx, Pv (i + 1)⟩ σ2 H2) (hd : ∀ σ H, Pv xs.length σ H → nx σ H) : ForK (Itl K a) g tb ⟨nx, rt, bk, ct⟩ σ H := for_list Pv h0 hl hs hd
theorem fk_tup (Pv : Nat → L2.St → Hp → Prop) (h0 : Pv 0 σ H) (hl : ∀ i σ H, i ≤ xs.length → Pv i σ H → SqT K H a xs)
    (hs : ∀ i x σ H, xs[i]? = some x → Pv i σ H → g x σ H fun σ2 H2 => tb ⟨Pv (i + 1), rt, nx, Pv (i + 1)⟩ σ2 H2) (hd : ∀ σ H, Pv xs.length σ H → nx σ H) : ForK (Itt K a) g tb ⟨nx, rt, bk, ct⟩ σ H := for_tup Pv h0 hl hs hd
theorem fk_range {n : Nat} (Pv : Nat → L2.St → Hp → Prop) (h0 : Pv 0 σ H)
    (hs : ∀ (i : Nat) σ H, i < n → Pv i σ H → g (.int (i : Int)) σ H fun σ2 H2 => tb ⟨Pv (i + 1), rt, nx, Pv (i + 1)⟩ σ2 H2) (hd : ∀ σ H, Pv n σ H → nx σ H) : ForK (Itr 0 n) g tb ⟨nx, rt, bk, ct⟩ σ H :=
  for_range Pv h0 (fun i σ H hi p => by
    have e : (0 : Int) + (i : Int) = (i : Int) := Int.zero_add _
    rw [e]
    exact hs i σ H hi p) hd
theorem fk_range2 {lo : Int} {n : Nat} (Pv : Nat → L2.St → Hp → Prop) (h0 : Pv 0 σ H)
    (hs : ∀ (i : Nat) σ H, i < n → Pv i σ H → g (.int (lo + (i : Int))) σ H fun σ2 H2 => tb ⟨Pv (i + 1), rt, nx, Pv (i + 1)⟩ σ2 H2) (hd : ∀ σ H, Pv n σ H → nx σ H) : ForK (Itr lo n) g tb ⟨nx, rt, bk, ct⟩ σ H :=
  for_range Pv h0 hs hd
theorem fk_enum (Pv : Nat → L2.St → Hp → Prop) (h0 : Pv 0 σ H) (hl : ∀ i σ H, i ≤ xs.length → Pv i σ H → SqL K H a xs)
    (hs : ∀ (i : Nat) x T σ H, xs[i]? = some x → H T = none → Pv i σ H → g (.ref T) σ (upd H T (.tup [.int (i : Nat), x])) fun σ2 H2 => tb ⟨Pv (i + 1), rt, nx, Pv (i + 1)⟩ σ2 H2) (hd : ∀ σ H, Pv xs.length σ H → nx σ H) : ForK (Ite K a) g tb ⟨nx, rt, bk, ct⟩ σ H := by
  refine ⟨fun i m σ H => m = xs.length - i ∧ i ≤ xs.length ∧ Pv i σ H, ⟨xs.length, by simp, Nat.zero_le _, h0⟩, ?_⟩
  rintro i m σ H ⟨rfl, hi, p⟩
  have q := hl i σ H hi p
  by_cases hlt : i < xs.length
  · refine .inr ⟨⟨xs, xs[i], q, by simp [hlt]⟩, Pv (i + 1), fun σ' H' p' => ⟨xs.length - (i + 1), by omega, rfl, hlt, p'⟩, fun x H' y => ?_⟩
    obtain ⟨T, z, rfl, hT, rfl, y⟩ := y
    exact hs i z T σ _ (y xs q) hT p
  · have e : i = xs.length := by omega
    subst e
    exact .inl ⟨⟨xs, q, Nat.le_refl _⟩, hd σ H p⟩
/-! ### comprehensions -/
def LcK (J : It) (g : TG) (tt : TT) (te : TE) (vs : List Nat) (σ : L2.St) (H1 : Hp) (Q : VK) : Prop := ∀ D, H1 D = none → ∃ W : Nat → Nat → Hp → Prop, (∃ m, W 0 m (upd H1 D (.lst []))) ∧ ∀ i m H, W i m H →
  (J.stop i H ∧ Q (.ref D) H) ∨ (J.go i H ∧ ∃ Nx : Hp → Prop, (∀ H', Nx H' → ∃ m', m' < m ∧ W (i + 1) m' H') ∧ ∀ x H', J.yld i H x H' → g x (wipe σ vs) H' fun σ2 H2 => wipe σ2 vs = wipe σ vs ∧ tt σ2 H2 fun b H3 =>
    if b = true then te σ2 H3 fun y H4 => ∃ acc, H4 D = some (.lst acc) ∧ acc.length < sizeLine ∧ Nx (upd H4 D (.lst (acc ++ [y]))) else Nx H3)
variable {tt : TT} {te : TE} {vs : List Nat} {Q : VK}
theorem rd_lc {wi : TI} (h : wi σ H fun J H1 => LcK J g tt te vs σ H1 Q) : tLc wi g tt te vs σ H Q := h
/-- what stands in the new list behind n turns -/
theorem filter_take_succ {ρ : Type} {rows : List ρ} {i : Nat} {r : ρ} (f : ρ → Bool) (h : rows[i]? = some r) : (rows.take (i + 1)).filter f = (rows.take i).filter f ++ (if f r then [r] else []) := by
  rw [List.take_add_one, h, List.filter_append]
  congr 1
  simp [List.filter]
  split <;> simp_all
theorem small_len {ρ α : Type} {rows : List ρ} {n : Nat} (f : ρ → Bool) (v : ρ → α) (h : rows.length ≤ n) (i : Nat) : (((rows.take i).filter f).map v).length ≤ n := by
  rw [List.length_map]
  have h1 := List.length_filter_le f (rows.take i)
  have h2 : (rows.take i).length ≤ rows.length := by rw [List.length_take]; omega
  omega
theorem lcRows {ρ : Type} {rows : List ρ} {J : It} {n : Nat} (hn : n = rows.length) (hz : n ≤ 100000) (f : ρ → Bool) (v : ρ → V)
    (hst : ∀ H', Same H H' → J.stop n H') (hgo : ∀ i H', Same H H' → i < n → J.go i H')
    (turn : ∀ i r H1, rows[i]? = some r → Same H H1 → ∀ x H2, J.yld i H1 x H2 → ∀ (Done : Hp → Prop) (Kept : VK), (∀ H3, Same H1 H3 → f r = false → Done H3) → (∀ H3, Same H1 H3 → f r = true → Kept (v r) H3) →
      g x (wipe σ vs) H2 fun σ2 H2 => wipe σ2 vs = wipe σ vs ∧ tt σ2 H2 fun b H3 => if b = true then te σ2 H3 Kept else Done H3)
    (q : ∀ D H', H D = none → Same H H' → H' D = some (.lst ((rows.filter f).map v)) → Q (.ref D) H') : LcK J g tt te vs σ H Q := by
  intro D hD
  refine ⟨fun i m H' => m = n - i ∧ i ≤ n ∧ Same H H' ∧ H' D = some (.lst (((rows.take i).filter f).map v)), ⟨n, by simp, Nat.zero_le _, same_new hD, upd_same⟩, ?_⟩
  rintro i m H1 ⟨rfl, hi, s1, h1⟩
  by_cases hlt : i < n
  · refine .inr ⟨hgo i H1 s1 hlt, fun H' => i + 1 ≤ n ∧ Same H H' ∧ H' D = some (.lst (((rows.take (i + 1)).filter f).map v)), fun H' p' => ⟨n - (i + 1), by omega, rfl, p'⟩, fun x H2 y => ?_⟩
    have hr : i < rows.length := by omega
    refine turn i rows[i] H1 (List.getElem?_eq_getElem hr) s1 x H2 y _ _ (fun H3 s3 hf => ?_) (fun H3 s3 hf => ?_)
    · refine ⟨hlt, s1.trans s3, ?_⟩
      rw [filter_take_succ f (List.getElem?_eq_getElem hr), hf]
      simp only [Bool.false_eq_true, if_false, List.append_nil]
      exact s3 _ _ h1
    · refine ⟨_, s3 _ _ h1, ?_, hlt, same_mut (s1.trans s3) hD, ?_⟩
      · have := small_len (rows := rows) (n := n) f v (by omega) i
        rw [sizeLine_eq]
        omega
      · rw [filter_take_succ f (List.getElem?_eq_getElem hr), hf]
        simp only [if_true, List.map_append, List.map_cons, List.map_nil]
        exact upd_same
  · have e : i = n := by omega
    subst e
    refine .inl ⟨hst H1 s1, q D H1 hD s1 ?_⟩
    rw [h1, hn, List.take_length]
/-- over a list that stands -/
theorem lcL {ρ : Type} {rows : List ρ} (hn : xs.length = rows.length) (hz : xs.length ≤ 100000) (hx : SqL K H a xs) (f : ρ → Bool) (v : ρ → V)
    (turn : ∀ (i : Nat) x r H1, xs[i]? = some x → rows[i]? = some r → Same H H1 → ∀ (Done : Hp → Prop) (Kept : VK), (∀ H3, Same H1 H3 → f r = false → Done H3) → (∀ H3, Same H1 H3 → f r = true → Kept (v r) H3) →
      g x (wipe σ vs) H1 fun σ2 H2 => wipe σ2 vs = wipe σ vs ∧ tt σ2 H2 fun b H3 => if b = true then te σ2 H3 Kept else Done H3)
    (q : ∀ D H', H D = none → Same H H' → H' D = some (.lst ((rows.filter f).map v)) → Q (.ref D) H') : LcK (Itl K a) g tt te vs σ H Q := by
  refine lcRows hn hz f v (fun H' s => ⟨xs, s.seq hx, Nat.le_refl _⟩) (fun i H' s hi => ⟨xs, xs[i], s.seq hx, by simp [hi]⟩) (fun i r H1 hr s1 x H2 y Done Kept hd hk => ?_) q
  obtain ⟨rfl, y⟩ := y
  exact turn i x r _ (y xs (s1.seq hx)) hr s1 Done Kept hd hk
theorem lcT {ρ : Type} {rows : List ρ} (hn : xs.length = rows.length) (hz : xs.length ≤ 100000) (hx : SqT K H a xs) (f : ρ → Bool) (v : ρ → V)
    (turn : ∀ (i : Nat) x r H1, xs[i]? = some x → rows[i]? = some r → Same H H1 → ∀ (Done : Hp → Prop) (Kept : VK), (∀ H3, Same H1 H3 → f r = false → Done H3) → (∀ H3, Same H1 H3 → f r = true → Kept (v r) H3) →
      g x (wipe σ vs) H1 fun σ2 H2 => wipe σ2 vs = wipe σ vs ∧ tt σ2 H2 fun b H3 => if b = true then te σ2 H3 Kept else Done H3)
    (q : ∀ D H', H D = none → Same H H' → H' D = some (.lst ((rows.filter f).map v)) → Q (.ref D) H') : LcK (Itt K a) g tt te vs σ H Q := by
  refine lcRows hn hz f v (fun H' s => ⟨xs, sqT_same s hx, Nat.le_refl _⟩) (fun i H' s hi => ⟨xs, xs[i], sqT_same s hx, by simp [hi]⟩) (fun i r H1 hr s1 x H2 y Done Kept hd hk => ?_) q
  obtain ⟨rfl, y⟩ := y
  exact turn i x r _ (y xs (sqT_same s1 hx)) hr s1 Done Kept hd hk
theorem lcR {n : Nat} (hz : n ≤ 100000) (f : Nat → Bool) (v : Nat → V)
    (turn : ∀ (i : Nat) H1, i < n → Same H H1 → ∀ (Done : Hp → Prop) (Kept : VK), (∀ H3, Same H1 H3 → f i = false → Done H3) → (∀ H3, Same H1 H3 → f i = true → Kept (v i) H3) →
      g (.int (i : Int)) (wipe σ vs) H1 fun σ2 H2 => wipe σ2 vs = wipe σ vs ∧ tt σ2 H2 fun b H3 => if b = true then te σ2 H3 Kept else Done H3)
    (q : ∀ D H', H D = none → Same H H' → H' D = some (.lst (((List.range n).filter f).map v)) → Q (.ref D) H') : LcK (Itr 0 n) g tt te vs σ H Q := by
  refine lcRows (rows := List.range n) (by simp) hz f v (fun H' s => Nat.le_refl _) (fun i H' s hi => hi) (fun i r H1 hr s1 x H2 y Done Kept hd hk => ?_) q
  obtain ⟨rfl, rfl⟩ := y
  have hi : i < n := by
    have := (List.getElem?_eq_some_iff.mp hr).1
    simpa using this
  have er : r = i := by
    rw [List.getElem?_range hi] at hr
    exact (Option.some.inj hr).symm
  subst er
  have e : (0 : Int) + (r : Int) = (r : Int) := Int.zero_add _
  rw [e]
  exact turn r _ hi s1 Done Kept hd hk
theorem rd_yes {P : Bool → Hp → Prop} (h : P true H) : tYes σ H P := h
end
section
variable {K : PySem.W.Frag} {H : Hp} {Q : VK}
theorem kit_int_int : PySem.W.kitOne K (.type "int") (.type "int") = some true := kit_ty (by decide +kernel)
theorem kit_int_bool : PySem.W.kitOne K (.type "int") (.type "bool") = some false := kit_ty (by decide +kernel)
theorem kit_int_str : PySem.W.kitOne K (.type "int") (.type "str") = some false := kit_ty (by decide +kernel)
theorem kit_int_list : PySem.W.kitOne K (.type "int") (.type "list") = some false := kit_ty (by decide +kernel)
theorem kit_int_tuple : PySem.W.kitOne K (.type "int") (.type "tuple") = some false := kit_ty (by decide +kernel)
theorem kit_bool_int : PySem.W.kitOne K (.type "bool") (.type "int") = some true := kit_ty (by decide +kernel)
theorem kit_bool_bool : PySem.W.kitOne K (.type "bool") (.type "bool") = some true := kit_ty (by decide +kernel)
theorem kit_bool_str : PySem.W.kitOne K (.type "bool") (.type "str") = some false := kit_ty (by decide +kernel)
theorem kit_bool_list : PySem.W.kitOne K (.type "bool") (.type "list") = some false := kit_ty (by decide +kernel)
theorem kit_bool_tuple : PySem.W.kitOne K (.type "bool") (.type "tuple") = some false := kit_ty (by decide +kernel)
theorem kit_str_int : PySem.W.kitOne K (.type "str") (.type "int") = some false := kit_ty (by decide +kernel)
theorem kit_str_bool : PySem.W.kitOne K (.type "str") (.type "bool") = some false := kit_ty (by decide +kernel)
theorem kit_str_str : PySem.W.kitOne K (.type "str") (.type "str") = some true := kit_ty (by decide +kernel)
theorem kit_str_list : PySem.W.kitOne K (.type "str") (.type "list") = some false := kit_ty (by decide +kernel)
theorem kit_str_tuple : PySem.W.kitOne K (.type "str") (.type "tuple") = some false := kit_ty (by decide +kernel)
theorem kit_list_int : PySem.W.kitOne K (.type "list") (.type "int") = some false := kit_ty (by decide +kernel)
theorem kit_list_bool : PySem.W.kitOne K (.type "list") (.type "bool") = some false := kit_ty (by decide +kernel)
theorem kit_list_str : PySem.W.kitOne K (.type "list") (.type "str") = some false := kit_ty (by decide +kernel)
theorem kit_list_list : PySem.W.kitOne K (.type "list") (.type "list") = some true := kit_ty (by decide +kernel)
theorem kit_list_tuple : PySem.W.kitOne K (.type "list") (.type "tuple") = some false := kit_ty (by decide +kernel)
theorem kit_tuple_int : PySem.W.kitOne K (.type "tuple") (.type "int") = some false := kit_ty (by decide +kernel)
theorem kit_tuple_bool : PySem.W.kitOne K (.type "tuple") (.type "bool") = some false := kit_ty (by decide +kernel)
theorem kit_tuple_str : PySem.W.kitOne K (.type "tuple") (.type "str") = some false := kit_ty (by decide +kernel)
theorem kit_tuple_list : PySem.W.kitOne K (.type "tuple") (.type "list") = some false := kit_ty (by decide +kernel)
theorem kit_tuple_tuple : PySem.W.kitOne K (.type "tuple") (.type "tuple") = some true := kit_ty (by decide +kernel)
theorem kit_NoneType_int : PySem.W.kitOne K (.type "NoneType") (.type "int") = some false := kit_ty (by decide +kernel)
theorem kit_NoneType_bool : PySem.W.kitOne K (.type "NoneType") (.type "bool") = some false := kit_ty (by decide +kernel)
theorem kit_NoneType_str : PySem.W.kitOne K (.type "NoneType") (.type "str") = some false := kit_ty (by decide +kernel)
theorem kit_NoneType_list : PySem.W.kitOne K (.type "NoneType") (.type "list") = some false := kit_ty (by decide +kernel)
theorem kit_NoneType_tuple : PySem.W.kitOne K (.type "NoneType") (.type "tuple") = some false := kit_ty (by decide +kernel)
theorem rd_isi_int_int {i : Int} (q : Q (.bl true) H) : rIsi K [(.int i), .ty "int"] H Q := rd_isi (.ty _) (.base (.int _)) kit_int_int q
theorem rd_isi_int_bool {i : Int} (q : Q (.bl false) H) : rIsi K [(.int i), .ty "bool"] H Q := rd_isi (.ty _) (.base (.int _)) kit_int_bool q
theorem rd_isi_int_str {i : Int} (q : Q (.bl false) H) : rIsi K [(.int i), .ty "str"] H Q := rd_isi (.ty _) (.base (.int _)) kit_int_str q
theorem rd_isi_int_list {i : Int} (q : Q (.bl false) H) : rIsi K [(.int i), .ty "list"] H Q := rd_isi (.ty _) (.base (.int _)) kit_int_list q
theorem rd_isi_int_tuple {i : Int} (q : Q (.bl false) H) : rIsi K [(.int i), .ty "tuple"] H Q := rd_isi (.ty _) (.base (.int _)) kit_int_tuple q
theorem rd_isi_bool_int {i : Bool} (q : Q (.bl true) H) : rIsi K [(.bl i), .ty "int"] H Q := rd_isi (.ty _) (.base (.bl _)) kit_bool_int q
theorem rd_isi_bool_bool {i : Bool} (q : Q (.bl true) H) : rIsi K [(.bl i), .ty "bool"] H Q := rd_isi (.ty _) (.base (.bl _)) kit_bool_bool q
theorem rd_isi_bool_str {i : Bool} (q : Q (.bl false) H) : rIsi K [(.bl i), .ty "str"] H Q := rd_isi (.ty _) (.base (.bl _)) kit_bool_str q
theorem rd_isi_bool_list {i : Bool} (q : Q (.bl false) H) : rIsi K [(.bl i), .ty "list"] H Q := rd_isi (.ty _) (.base (.bl _)) kit_bool_list q
theorem rd_isi_bool_tuple {i : Bool} (q : Q (.bl false) H) : rIsi K [(.bl i), .ty "tuple"] H Q := rd_isi (.ty _) (.base (.bl _)) kit_bool_tuple q
theorem rd_isi_str_int {i : Str} (q : Q (.bl false) H) : rIsi K [(.str i), .ty "int"] H Q := rd_isi (.ty _) (.base (.str _)) kit_str_int q
theorem rd_isi_str_bool {i : Str} (q : Q (.bl false) H) : rIsi K [(.str i), .ty "bool"] H Q := rd_isi (.ty _) (.base (.str _)) kit_str_bool q
theorem rd_isi_str_str {i : Str} (q : Q (.bl true) H) : rIsi K [(.str i), .ty "str"] H Q := rd_isi (.ty _) (.base (.str _)) kit_str_str q
theorem rd_isi_str_list {i : Str} (q : Q (.bl false) H) : rIsi K [(.str i), .ty "list"] H Q := rd_isi (.ty _) (.base (.str _)) kit_str_list q
theorem rd_isi_str_tuple {i : Str} (q : Q (.bl false) H) : rIsi K [(.str i), .ty "tuple"] H Q := rd_isi (.ty _) (.base (.str _)) kit_str_tuple q
theorem rd_isi_list_int {p : Addr} {xs : List V} (e : H p = some (.lst xs)) (q : Q (.bl false) H) : rIsi K [(.ref p), .ty "int"] H Q := rd_isi (.ty _) (.base (.lst e)) kit_list_int q
theorem rd_isi_list_bool {p : Addr} {xs : List V} (e : H p = some (.lst xs)) (q : Q (.bl false) H) : rIsi K [(.ref p), .ty "bool"] H Q := rd_isi (.ty _) (.base (.lst e)) kit_list_bool q
theorem rd_isi_list_str {p : Addr} {xs : List V} (e : H p = some (.lst xs)) (q : Q (.bl false) H) : rIsi K [(.ref p), .ty "str"] H Q := rd_isi (.ty _) (.base (.lst e)) kit_list_str q
theorem rd_isi_list_list {p : Addr} {xs : List V} (e : H p = some (.lst xs)) (q : Q (.bl true) H) : rIsi K [(.ref p), .ty "list"] H Q := rd_isi (.ty _) (.base (.lst e)) kit_list_list q
theorem rd_isi_list_tuple {p : Addr} {xs : List V} (e : H p = some (.lst xs)) (q : Q (.bl false) H) : rIsi K [(.ref p), .ty "tuple"] H Q := rd_isi (.ty _) (.base (.lst e)) kit_list_tuple q
theorem rd_isi_tuple_int {p : Addr} {xs : List V} (e : H p = some (.tup xs)) (q : Q (.bl false) H) : rIsi K [(.ref p), .ty "int"] H Q := rd_isi (.ty _) (.base (.tup e)) kit_tuple_int q
theorem rd_isi_tuple_bool {p : Addr} {xs : List V} (e : H p = some (.tup xs)) (q : Q (.bl false) H) : rIsi K [(.ref p), .ty "bool"] H Q := rd_isi (.ty _) (.base (.tup e)) kit_tuple_bool q
theorem rd_isi_tuple_str {p : Addr} {xs : List V} (e : H p = some (.tup xs)) (q : Q (.bl false) H) : rIsi K [(.ref p), .ty "str"] H Q := rd_isi (.ty _) (.base (.tup e)) kit_tuple_str q
theorem rd_isi_tuple_list {p : Addr} {xs : List V} (e : H p = some (.tup xs)) (q : Q (.bl false) H) : rIsi K [(.ref p), .ty "list"] H Q := rd_isi (.ty _) (.base (.tup e)) kit_tuple_list q
theorem rd_isi_tuple_tuple {p : Addr} {xs : List V} (e : H p = some (.tup xs)) (q : Q (.bl true) H) : rIsi K [(.ref p), .ty "tuple"] H Q := rd_isi (.ty _) (.base (.tup e)) kit_tuple_tuple q
theorem rd_isi_NoneType_int  (q : Q (.bl false) H) : rIsi K [.non, .ty "int"] H Q := rd_isi (.ty _) (.base .non) kit_NoneType_int q
theorem rd_isi_NoneType_bool  (q : Q (.bl false) H) : rIsi K [.non, .ty "bool"] H Q := rd_isi (.ty _) (.base .non) kit_NoneType_bool q
theorem rd_isi_NoneType_str  (q : Q (.bl false) H) : rIsi K [.non, .ty "str"] H Q := rd_isi (.ty _) (.base .non) kit_NoneType_str q
theorem rd_isi_NoneType_list  (q : Q (.bl false) H) : rIsi K [.non, .ty "list"] H Q := rd_isi (.ty _) (.base .non) kit_NoneType_list q
theorem rd_isi_NoneType_tuple  (q : Q (.bl false) H) : rIsi K [.non, .ty "tuple"] H Q := rd_isi (.ty _) (.base .non) kit_NoneType_tuple q
theorem rd_isi_own {C a dx : Addr} {fs : List (Str × V)} (T : TyC K C) (e : H a = some (.ins C dx fs)) (q : Q (.bl true) H) : rIsi K [.ref a, .ref C] H Q := rd_isi (.own _) (.base (T.at e)) kit_self q
end
/-! ### texts by their codes -/
def tx (l : List Nat) : Str := ⟨l.toArray⟩
theorem tx_list (l : List Nat) : (tx l).cps.toList = l := rfl
theorem tx_len (l : List Nat) : (tx l).length = l.length := by simp [tx, Str.length]
theorem tx_app (l m : List Nat) : tx l ++ tx m = tx (l ++ m) := PyProof.Rows.str_of_list (by rw [PyProof.Rows.cps_toList_append]; rfl)
theorem tx_of (z : Str) : z = tx z.cps.toList := PyProof.Rows.str_of_list rfl
theorem tx_inj {l m : List Nat} : tx l = tx m ↔ l = m := ⟨fun h => by have := congrArg (fun z => z.cps.toList) h; exact this, fun h => by rw [h]⟩
def smalls : List Nat := [97, 98, 99, 100, 101, 102, 103, 104, 105, 106, 107, 108, 109, 110, 111, 112, 113, 114, 115, 116, 117, 118, 119, 120, 121, 122]
def capitals : List Nat := [65, 66, 67, 68, 69, 70, 71, 72, 73, 74, 75, 76, 77, 78, 79, 80, 81, 82, 83, 84, 85, 86, 87, 88, 89, 90]
theorem smalls_eq : (Str.ofString "abcdefghijklmnopqrstuvwxyz") = tx smalls := by decide +kernel
theorem capitals_eq : (Str.ofString "ABCDEFGHIJKLMNOPQRSTUVWXYZ") = tx capitals := by decide +kernel
theorem atI_mem {α : Type} {xs : List α} {i : Int} (h0 : 0 ≤ i) (h1 : i < (xs.length : Int)) : ∃ z, atI xs i = some z ∧ z ∈ xs := by
  have e : i.toNat < xs.length := by omega
  refine ⟨xs[i.toNat], ?_, List.getElem_mem e⟩
  unfold atI ixN
  rw [if_pos h0, if_pos h1]
  simp [e]
theorem empty_tx : Str.empty = tx [] := rfl
theorem sg_tx (c : Nat) : (⟨#[c]⟩ : Str) = tx [c] := rfl
section
variable {σ : L2.St} {H : Hp} {te : TE} {ts : List TE} {QS : Str → Hp → Prop} {Q : VK}
def JsK (ts : List TE) (acc : Str) (σ : L2.St) (x : V) (H1 : Hp) (Q : Str → Hp → Prop) : Prop := ∃ y : Str, x = .str y ∧ (acc ++ y).length ≤ sizeLine ∧ tJs ts (acc ++ y) σ H1 Q
theorem rd_jsC {acc : Str} (h : te σ H fun x H1 => JsK ts acc σ x H1 QS) : tJs (te :: ts) acc σ H QS := h
theorem rd_jsN {acc : Str} (h : QS acc H) : tJs [] acc σ H QS := h
theorem rd_JsK {l m : List Nat} (h : l.length + m.length ≤ 100000) (k : tJs ts (tx (l ++ m)) σ H QS) : JsK ts (tx l) σ (.str (tx m)) H QS := by
  have e : (tx (l ++ m)).length = l.length + m.length := by rw [tx_len, List.length_append]
  exact ⟨tx m, rfl, by rw [tx_app, e]; exact sz_of h, by rw [tx_app]; exact k⟩
def FmtK (x : V) (H1 : Hp) (Q : VK) : Prop := (∃ y : Str, x = .str y ∧ y.length ≤ sizeLine ∧ Q (.str y) H1) ∨ ∃ i : Int, x = .int i ∧ i.natAbs.log2 < 1920 ∧ Q (.str (toString i)) H1
theorem rd_fmt (h : te σ H fun x H1 => FmtK x H1 Q) : tFmt te σ H Q := h
theorem rd_fmtS {y : Str} (h : y.length ≤ sizeLine) (k : Q (.str y) H) : FmtK (.str y) H Q := .inl ⟨y, rfl, h, k⟩
theorem rd_fmtT {l : List Nat} (h : l.length ≤ 100000) (k : Q (.str (tx l)) H) : FmtK (.str (tx l)) H Q := .inl ⟨_, rfl, by rw [tx_len]; exact sz_of h, k⟩
theorem rd_addT {l m : List Nat} (hz : l.length + m.length ≤ 100000) (q : Q (.str (tx (l ++ m))) H) : rAddStr (.str (tx l)) (.str (tx m)) H Q := by
  refine rd_addS (by rw [tx_len, tx_len]; exact sz_of hz) ?_
  rw [tx_app]
  exact q
theorem rd_lenTx {l : List Nat} (hz : l.length ≤ 100000) (q : Q (.int (l.length : Nat)) H) : rLenStr [.str (tx l)] H Q := by
  refine rd_lenS (by rw [tx_len]; exact sz_of hz) ?_
  rw [tx_len]
  exact q
theorem eq_tx {l m : List Nat} : decide (V.str (tx l) = V.str (tx m)) = decide (l = m) := by
  have e : (V.str (tx l) = V.str (tx m)) ↔ l = m := ⟨fun h => tx_inj.mp (by injection h), fun h => by rw [h]⟩
  simp only [e]
theorem rd_eqTx {l m : List Nat} (q : Q (.bl (decide (l = m))) H) : rEq (.str (tx l)) (.str (tx m)) H Q := rd_eq rfl (by rw [eq_tx]; exact q)
theorem rd_neTx {l m : List Nat} (q : Q (.bl (!decide (l = m))) H) : rNe (.str (tx l)) (.str (tx m)) H Q := rd_ne rfl (by rw [eq_tx]; exact q)
theorem rd_inTx {c : Nat} {l : List Nat} (q : Q (.bl (decide (c ∈ l))) H) : rInSign (.str (tx [c])) (.str (tx l)) H Q := rd_inSign q
theorem rd_notInTx {c : Nat} {l : List Nat} (q : Q (.bl (!decide (c ∈ l))) H) : rNotInSign (.str (tx [c])) (.str (tx l)) H Q := rd_notInSign q
theorem atI_at {α : Type} {xs : List α} {i : Nat} {c : α} (h : xs[i]? = some c) : atI xs (i : Int) = some c := by
  have e := (List.getElem?_eq_some_iff.mp h).1
  unfold atI ixN
  rw [if_pos (by omega), if_pos (by omega)]
  simpa using h
theorem rd_ixTx {l : List Nat} {i : Nat} {c : Nat} (hz : l.length ≤ 100000) (h : l[i]? = some c) (q : Q (.str (tx [c])) H) : rIxS (.str (tx l)) (.int (i : Nat)) H Q := rd_ixS (by rw [tx_len]; exact sz_of hz) (atI_at h) q
theorem sIx_nat {n d i : Nat} (h : i ≤ n) : HT.sIx n d (some (i : Int)) = i := by
  rw [HT.sIx_nat]
  omega
theorem cutS_tx {l : List Nat} {i j : Nat} (hi : i ≤ l.length) (hj : j ≤ l.length) : cutS (tx l) (some (i : Int)) (some (j : Int)) = tx ((l.drop i).take (j - i)) := by
  unfold cutS
  rw [tx_len, sIx_nat hi, sIx_nat hj] <;> rfl
theorem rd_cutTx {l : List Nat} {i j : Nat} (hz : l.length ≤ 100000) (hi : i ≤ l.length) (hj : j ≤ l.length) (q : Q (.str (tx ((l.drop i).take (j - i)))) H) : rSlS (.str (tx l)) (some (i : Int)) (some (j : Int)) H Q := by
  refine rd_slS (by rw [tx_len]; exact sz_of hz) ?_
  rw [cutS_tx hi hj]
  exact q
end
section
variable {X : Cx} {K : PySem.W.Frag}
theorem ix_listK (h : X.K = K := by rfl) : IxR X (rIxL K) := h ▸ ix_list
theorem ix_tupK (h : X.K = K := by rfl) : IxR X (rIxT K) := h ▸ ix_tup
theorem op_inSeqK (h : X.K = K := by rfl) : OpR X (compareOp .In) (rIn K false) := h ▸ op_in_seq
theorem op_notInSeqK (h : X.K = K := by rfl) : OpR X (compareOp .NotIn) (rIn K true) := h ▸ op_notIn_seq
theorem op_eqDK (hu : X.A.units + 64 < cLine) (h : X.K = K := by rfl) : OpR X (compareOp .Eq) (rEqD K) := h ▸ op_eqD hu
theorem op_neDK (hu : X.A.units + 64 < cLine) (h : X.K = K := by rfl) : OpR X (compareOp .NotEq) (rNeD K) := h ▸ op_neD hu
theorem call_lenSeqK (h : X.K = K := by rfl) : CallR X (.builtin "len") (rLenSeq K) := h ▸ call_lenSeq
theorem call_listOfK (h : X.K = K := by rfl) : CallR X (.type "list") (rListOf K) := h ▸ call_listOf
theorem call_isi_K (h : X.K = K := by rfl) : CallR X (.builtin "isinstance") (rIsi K) := h ▸ call_isi
theorem pe_fldK {e : Expr} {f : Str} {pos : Pos} {ta : TE} (he : PE X e ta) (hb : attributeBase e f X.env (eval e X.env) = eval e X.env) (h : X.K = K := by rfl) : PE X (.Attribute e f pos) (tFld K ta f) := h ▸ pe_fld he hb
theorem pe_cvalK {e : Expr} {f : Str} {pos : Pos} {ta : TE} (he : PE X e ta) (hb : attributeBase e f X.env (eval e X.env) = eval e X.env := by rfl) (h : X.K = K := by rfl) : PE X (.Attribute e f pos) (ClX.tCVal K ta f) := h ▸ ClX.pe_cval he hb
end
/-! ### lists of texts -/
def wd (l : List Nat) : V := .str (tx l)
def wdD (l : List Nat) : PyData := .str (tx l)
def okT (l : List Nat) : Prop := ∀ c ∈ l, c < 128
theorem okT_str {l : List Nat} (h : okT l) : PyData.strOk (tx l) = true := by
  unfold PyData.strOk tx
  rw [Array.all_eq_true']
  intro x hx
  have := h x (by simpa using hx)
  simp
  omega
theorem wd_flat (ws : List (List Nat)) : (ws.map wd).all flatV = true := by
  rw [List.all_map, List.all_eq_true]
  intro x _
  rfl
theorem inV_wd (l : List Nat) (ws : List (List Nat)) : inV (.str (tx l)) (ws.map wd) = decide (l ∈ ws) := by
  unfold inV
  rw [List.any_map]
  induction ws with
  | nil => simp
  | cons m ws ih =>
    rw [List.any_cons, ih]
    show ((tx m == tx l) || decide (l ∈ ws)) = _
    by_cases h : m = l
    · subst h
      simp
    · have h1 : ¬ tx m = tx l := fun z => h (tx_inj.mp z)
      have h2 : ¬ l = m := fun z => h z.symm
      simp [h1, h2]
section
variable {K : PySem.W.Frag} {H : Hp} {Q : VK} {p : Addr} {l : List Nat} {ws vs : List (List Nat)}
theorem rd_inWL (h : SqL K H p (ws.map wd)) (q : Q (.bl (decide (l ∈ ws))) H) : rIn K false (.str (tx l)) (.ref p) H Q := rd_inSeqL h rfl (wd_flat ws) (by rw [inV_wd]; exact q)
theorem rd_inWT (h : SqT K H p (ws.map wd)) (q : Q (.bl (decide (l ∈ ws))) H) : rIn K false (.str (tx l)) (.ref p) H Q := rd_inSeqT h rfl (wd_flat ws) (by rw [inV_wd]; exact q)
theorem rd_notInWL (h : SqL K H p (ws.map wd)) (q : Q (.bl (!decide (l ∈ ws))) H) : rIn K true (.str (tx l)) (.ref p) H Q := rd_inSeqL h rfl (wd_flat ws) (by rw [inV_wd]; exact q)
theorem rd_notInWT (h : SqT K H p (ws.map wd)) (q : Q (.bl (!decide (l ∈ ws))) H) : rIn K true (.str (tx l)) (.ref p) H Q := rd_inSeqT h rfl (wd_flat ws) (by rw [inV_wd]; exact q)
theorem joinL_len (sep : List Nat) : ∀ ws : List (List Nat), (TL.joinL sep ws).length ≤ (ws.map (·.length)).sum + ws.length * sep.length
  | [] => by simp [TL.joinL]
  | [x] => by simp [TL.joinL]
  | x :: y :: ws => by
    have h := joinL_len sep (y :: ws)
    have e : TL.joinL sep (x :: y :: ws) = x ++ (sep ++ TL.joinL sep (y :: ws)) := by simp [TL.joinL]
    rw [e, List.length_append, List.length_append, List.map_cons, List.sum_cons, List.length_cons, Nat.succ_mul]
    omega
theorem wd_strs (ws : List (List Nat)) : ws.map wd = (ws.map tx).map V.str := by rw [List.map_map]; rfl
/-- what sep.join(..) asks -/
def JoinK (K : PySem.W.Frag) (x : V) (xs : List V) (H : Hp) (Q : VK) : Prop := ∃ a p, ∃ ys : List Str, x = .str a ∧ xs = [.ref p] ∧ (SqL K H p (ys.map V.str) ∨ SqT K H p (ys.map V.str)) ∧ (ys.map (·.length)).sum + ys.length * a.length ≤ 16777216 ∧ Q (.str (Txt.join a ys)) H
theorem rd_joinW {sep : List Nat} (h : SqL K H p (ws.map wd) ∨ SqT K H p (ws.map wd)) (hb : (ws.map (·.length)).sum + ws.length * sep.length ≤ 100000) (q : Q (.str (tx (TL.joinL sep ws))) H) : JoinK K (.str (tx sep)) [.ref p] H Q := by
  refine ⟨tx sep, p, ws.map tx, rfl, rfl, by rw [← wd_strs]; exact h, ?_, ?_⟩
  · have e : (ws.map tx).map (·.length) = ws.map (·.length) := SX.lens ws
    rw [e, List.length_map, tx_len]
    omega
  · have e : Txt.join (tx sep) (ws.map tx) = tx (TL.joinL sep ws) := SX.join_S sep ws
    rw [e]
    exact q
theorem wd_dp : ∀ ws : List (List Nat), DpAll K H (ws.map wd) (ws.map wdD)
  | [] => .nil
  | _ :: ws => .cons (.str _) (wd_dp ws)
theorem wdD_lay : ∀ ws : List (List Nat), (∀ w ∈ ws, okT w) → PyData.canLayAll0 (ws.map wdD) = true
  | [], _ => by simp [PyData.canLayAll0]
  | z :: zs, h => by simp [PyData.canLayAll0, wdD, PyData.canLay0, okT_str (h z (by simp)), wdD_lay zs fun p hp => h p (by simp [hp])]
theorem wdD_depth : ∀ ws : List (List Nat), PyData.depthAll (ws.map wdD) = 0
  | [] => by simp [PyData.depthAll]
  | z :: zs => by simp [PyData.depthAll, wdD, PyData.depth, wdD_depth zs]
theorem wdL_shaped (h : ∀ w ∈ ws, okT w) : SeqAt.shaped (.list (ws.map wdD)) = true := by
  show (PyData.canLay0 (.list (ws.map wdD)) && decide (PyData.depth (.list (ws.map wdD)) ≤ 64)) = true
  rw [Bool.and_eq_true]
  exact ⟨by simp only [PyData.canLay0]; exact wdD_lay ws h, decide_eq_true (by simp only [PyData.depth, wdD_depth]; omega)⟩
theorem wdT_shaped (h : ∀ w ∈ ws, okT w) : SeqAt.shaped (.tuple (ws.map wdD)) = true := by
  show (PyData.canLay0 (.tuple (ws.map wdD)) && decide (PyData.depth (.tuple (ws.map wdD)) ≤ 64)) = true
  rw [Bool.and_eq_true]
  exact ⟨by simp only [PyData.canLay0]; exact wdD_lay ws h, decide_eq_true (by simp only [PyData.depth, wdD_depth]; omega)⟩
theorem wdD_eqv : ∀ ws vs : List (List Nat), PyData.eqvAll (ws.map wdD) (vs.map wdD) = decide (ws = vs)
  | [], [] => by simp [PyData.eqvAll]
  | [], _ :: _ => by simp [PyData.eqvAll]
  | _ :: _, [] => by simp [PyData.eqvAll]
  | w :: ws, v :: vs => by
    have e : PyData.eqvAll ((w :: ws).map wdD) ((v :: vs).map wdD) = ((tx w == tx v) && PyData.eqvAll (ws.map wdD) (vs.map wdD)) := by simp only [List.map_cons, wdD, PyData.eqvAll, PyData.eqv]
    rw [e, wdD_eqv ws vs]
    by_cases h : w = v
    · subst h
      simp
    · have h1 : ¬ tx w = tx v := fun z => h (tx_inj.mp z)
      simp [h, h1]
theorem rd_eqWL {r : Addr} (h : SqL K H p (ws.map wd)) (h2 : SqL K H r (vs.map wd)) (o1 : ∀ w ∈ ws, okT w) (o2 : ∀ w ∈ vs, okT w) (q : Q (.bl (decide (ws = vs))) H) : rEqD K (.ref p) (.ref r) H Q :=
  rd_eqD (.lst h (wd_dp ws)) (.lst h2 (wd_dp vs)) (wdL_shaped o1) (wdL_shaped o2) (by rw [show PyData.eqv (.list (ws.map wdD)) (.list (vs.map wdD)) = PyData.eqvAll (ws.map wdD) (vs.map wdD) by simp only [PyData.eqv], wdD_eqv]; exact q)
theorem rd_neWL {r : Addr} (h : SqL K H p (ws.map wd)) (h2 : SqL K H r (vs.map wd)) (o1 : ∀ w ∈ ws, okT w) (o2 : ∀ w ∈ vs, okT w) (q : Q (.bl (!decide (ws = vs))) H) : rNeD K (.ref p) (.ref r) H Q :=
  rd_neD (.lst h (wd_dp ws)) (.lst h2 (wd_dp vs)) (wdL_shaped o1) (wdL_shaped o2) (by rw [show PyData.eqv (.list (ws.map wdD)) (.list (vs.map wdD)) = PyData.eqvAll (ws.map wdD) (vs.map wdD) by simp only [PyData.eqv], wdD_eqv]; exact q)
theorem rd_eqWT {r : Addr} (h : SqT K H p (ws.map wd)) (h2 : SqT K H r (vs.map wd)) (o1 : ∀ w ∈ ws, okT w) (o2 : ∀ w ∈ vs, okT w) (q : Q (.bl (decide (ws = vs))) H) : rEqD K (.ref p) (.ref r) H Q :=
  rd_eqD (.tup h (wd_dp ws)) (.tup h2 (wd_dp vs)) (wdT_shaped o1) (wdT_shaped o2) (by rw [show PyData.eqv (.tuple (ws.map wdD)) (.tuple (vs.map wdD)) = PyData.eqvAll (ws.map wdD) (vs.map wdD) by simp only [PyData.eqv], wdD_eqv]; exact q)
end
section
variable {X : Cx} {o e : Expr} {to te : TE} {K : PySem.W.Frag}
theorem pe_joinR {apos pos : Pos} (ho : PE X o to) (he : PE X e te) (h : X.K = K := by rfl) (hs : starEach [e] X.env = [(false, eval e X.env)] := by rfl) (hbase : attributeBase o "join" X.env (eval o X.env) = eval o X.env := by rfl) (hline : (apos.endLine == pos.line) = true := by rfl) :
    PE X (.Call (.Attribute o "join" apos) [e] [] pos) (tM1 (JoinK K) to te) := h ▸ pe_join ho he hs hbase hline
def SplitK (x : V) (xs : List V) (H : Hp) (Q : VK) : Prop := ∃ a b, x = .str a ∧ xs = [.str b] ∧ (b.length == 0) = false ∧ a.length + 2 ≤ sizeLine ∧ rNewStrs (Txt.split a b) H Q
theorem pe_splitR {apos pos : Pos} (ho : PE X o to) (he : PE X e te) (hs : starEach [e] X.env = [(false, eval e X.env)] := by rfl) (hbase : attributeBase o "split" X.env (eval o X.env) = eval o X.env := by rfl) (hline : (apos.endLine == pos.line) = true := by rfl) :
    PE X (.Call (.Attribute o "split" apos) [e] [] pos) (tM1 SplitK to te) := pe_split ho he hs hbase hline
end
theorem units65 {k : Nat} {A : Around} (r : Room k A) : A.units + 65 < cLine := by have := r.un; omega
end Hk

/-! The frozen part F of the heap H: data that is never written again; what a call leaves: Grow. -/
namespace Hk
open PySem PySem.Spec PyProof.Rows L2

/-- behind a call: the frozen part and the heap have grown; what was tracked and not frozen (the callers' own) is kept, but for S -/
structure Grow (S : List Addr) (F H F' H' : Hp) : Prop where
  ff : Same F F'
  fh : Same F' H'
  hh : ∀ c o, c ∉ S → H c = some o → H' c = some o
  own : ∀ c, F c = none → H c ≠ none → F' c = none ∧ H' c ≠ none
section
variable {S : List Addr} {F H F1 H1 F2 H2 : Hp} {p : Addr} {o : HO}
theorem some_ne {α : Type} {x : Option α} {y : α} (h : x = some y) : x ≠ none := by rw [h]; intro z; cases z
theorem same_nn (e : Same H H1) (h : H p ≠ none) : H1 p ≠ none := by
  cases q : H p with
  | none => exact absurd q h
  | some o => rw [e _ _ q]; intro z; cases z
theorem upd_nn {q : Addr} (h : H p ≠ none) : upd H q o p ≠ none := by
  by_cases e : p = q
  · rw [e, upd_same]; intro z; cases z
  · rw [upd_ne e]; exact h
theorem Grow.refl (h : Same F H) : Grow S F H F H := ⟨Same.refl _, h, fun _ _ _ e => e, fun _ a b => ⟨a, b⟩⟩
theorem Grow.trans (a : Grow S F H F1 H1) (b : Grow S F1 H1 F2 H2) : Grow S F H F2 H2 :=
  ⟨a.ff.trans b.ff, b.fh, fun c o n e => b.hh c o n (a.hh c o n e), fun c x y => let z := a.own c x y; b.own c z.1 z.2⟩
theorem Grow.weak (a : Grow [] F H F1 H1) : Grow S F H F1 H1 := ⟨a.ff, a.fh, fun c o _ e => a.hh c o (by simp) e, a.own⟩
theorem Grow.step {S' : List Addr} (a : Grow S F H F1 H1) (b : Grow [] F1 H1 F2 H2) : Grow S F H F2 H2 := a.trans b.weak
theorem Grow.same (a : Grow [] F H F1 H1) : Same H H1 := fun c o e => a.hh c o (by simp) e
/-- a new thing, frozen -/
theorem Grow.new (a : Grow S F H F1 H1) (n : H1 p = none) : Grow S F H (upd F1 p o) (upd H1 p o) := by
  refine ⟨a.ff.trans (same_new (a.fh.free n)), fun c u e => ?_, fun c u h e => upd_new n (a.hh c u h e), fun c x y => ?_⟩
  · by_cases q : c = p
    · subst q; rw [upd_same] at e ⊢; exact e
    · rw [upd_ne q] at e ⊢; exact a.fh _ _ e
  · have z := a.own c x y
    have q : c ≠ p := fun q => z.2 (q ▸ n)
    exact ⟨upd_oldN q z.1, upd_nn z.2⟩
/-- a new thing that will be written -/
theorem Grow.newO (a : Grow S F H F1 H1) (n : H1 p = none) : Grow S F H F1 (upd H1 p o) :=
  ⟨a.ff, a.fh.trans (same_new n), fun c u h e => upd_new n (a.hh c u h e), fun c x y => let z := a.own c x y; ⟨z.1, upd_nn z.2⟩⟩
/-- a store to one's own -/
theorem Grow.mut (a : Grow S F H F1 H1) (f : F1 p = none) (n : p ∈ S ∨ H p = none) : Grow S F H F1 (upd H1 p o) := by
  refine ⟨a.ff, same_mut a.fh f, fun c u h e => ?_, fun c x y => let z := a.own c x y; ⟨z.1, upd_nn z.2⟩⟩
  have q : c ≠ p := by
    rcases n with n | n
    · exact fun q => h (q ▸ n)
    · exact ne_of_none e n
  exact upd_old q (a.hh c u h e)
/-- one's own thing is frozen -/
theorem Grow.frz (a : Grow S F H F1 H1) (h : H1 p = some o) (f : F1 p = none) (n : H p = none) : Grow S F H (upd F1 p o) H1 := by
  refine ⟨a.ff.trans (same_new f), fun c u e => ?_, a.hh, fun c x y => ?_⟩
  · by_cases q : c = p
    · subst q; rw [upd_same] at e; rw [← e]; exact h
    · rw [upd_ne q] at e; exact a.fh _ _ e
  · have z := a.own c x y
    exact ⟨upd_oldN (fun q => y (q ▸ n)) z.1, z.2⟩
theorem Grow.free (a : Grow S F H F1 H1) (h : H1 p = none) : H p = none := by
  cases e : H p with
  | none => rfl
  | some u =>
    cases q : F p with
    | some v =>
      have := a.fh _ _ (a.ff _ _ q)
      rw [h] at this; cases this
    | none => exact absurd h (a.own p q (some_ne e)).2
/-- one's own thing: at p stands o, not frozen -/
structure Hold (F H : Hp) (p : Addr) (o : HO) : Prop where
  f : F p = none
  h : H p = some o
theorem Hold.go (h : Hold F H p o) (a : Grow S F H F1 H1) (n : p ∉ S) : Hold F1 H1 p o := ⟨(a.own p h.f (some_ne h.h)).1, a.hh p o n h.h⟩
theorem Hold.go0 (h : Hold F H p o) (a : Grow [] F H F1 H1) : Hold F1 H1 p o := h.go a (by simp)
theorem Hold.new (fh : Same F H) (n : H p = none) : Hold F (upd H p o) p o := ⟨fh.free n, upd_same⟩
theorem Hold.put {u : HO} (h : Hold F H p o) : Hold F (upd H p u) p u := ⟨h.f, upd_same⟩
theorem Hold.other {q : Addr} {u : HO} (h : Hold F H p o) (n : p ≠ q) : Hold F (upd H q u) p o := ⟨h.f, upd_old n h.h⟩
theorem Hold.newF {q : Addr} {u : HO} (h : Hold F H p o) (n : H q = none) : Hold (upd F q u) (upd H q u) p o := ⟨upd_oldN (ne_new n h.h) h.f, upd_new n h.h⟩
theorem Hold.ne {q : Addr} {u : HO} (h : Hold F H p o) (e : F q = some u) : p ≠ q := fun z => by rw [← z, h.f] at e; cases e
end

/-! ### data -/
section
variable {K : PySem.W.Frag} {H H1 : Hp}
mutual
theorem dp_mono (e : Same H H1) : ∀ (d : PyData) (v : V), Dp K H v d → Dp K H1 v d
  | .none, _, h => by cases h; exact .non
  | .bool b, _, h => by cases h; exact .bl b
  | .int i, _, h => by cases h; exact .int i
  | .str x, _, h => by cases h; exact .str x
  | .list ds, _, h => by
    cases h with
    | lst hs ha => exact .lst (e.seq hs) (dpAll_mono e ds _ ha)
  | .tuple ds, _, h => by
    cases h with
    | tup hs ha => exact .tup (sqT_same e hs) (dpAll_mono e ds _ ha)
  | .dict _, _, h => by cases h
theorem dpAll_mono (e : Same H H1) : ∀ (ds : List PyData) (vs : List V), DpAll K H vs ds → DpAll K H1 vs ds
  | [], _, h => by cases h; exact .nil
  | d :: ds, _, h => by
    cases h with
    | cons hd ha => exact .cons (dp_mono e d _ hd) (dpAll_mono e ds _ ha)
end
theorem _root_.L2.Dp.mono {d : PyData} {v : V} (h : Dp K H v d) (e : Same H H1) : Dp K H1 v d := dp_mono e d v h
theorem _root_.L2.DpAll.mono {ds : List PyData} {vs : List V} (h : DpAll K H vs ds) (e : Same H H1) : DpAll K H1 vs ds := dpAll_mono e ds vs h
theorem _root_.L2.DpAll.length {vs : List V} {ds : List PyData} (h : DpAll K H vs ds) : vs.length = ds.length := by
  induction vs generalizing ds with
  | nil => cases h; rfl
  | cons v vs ih =>
    cases h with
    | cons _ ha => simp [ih ha]
theorem _root_.L2.DpAll.get {vs : List V} {ds : List PyData} (h : DpAll K H vs ds) {i : Nat} {v : V} (e : vs[i]? = some v) : ∃ d, ds[i]? = some d ∧ Dp K H v d := by
  induction vs generalizing ds i with
  | nil => simp at e
  | cons v' vs ih =>
    cases h with
    | cons hd ha =>
      cases i with
      | zero => simp at e; subst e; exact ⟨_, rfl, hd⟩
      | succ i => simpa using ih ha (by simpa using e)
theorem _root_.L2.DpAll.app {vs ws : List V} {ds es : List PyData} (h : DpAll K H vs ds) (h2 : DpAll K H ws es) : DpAll K H (vs ++ ws) (ds ++ es) := by
  induction vs generalizing ds with
  | nil => cases h; exact h2
  | cons v vs ih =>
    cases h with
    | cons hd ha => exact .cons hd (ih ha)
theorem _root_.L2.DpAll.one {v : V} {d : PyData} (h : Dp K H v d) : DpAll K H [v] [d] := .cons h .nil
theorem _root_.L2.DpAll.snoc {vs : List V} {ds : List PyData} {v : V} {d : PyData} (h : DpAll K H vs ds) (h2 : Dp K H v d) : DpAll K H (vs ++ [v]) (ds ++ [d]) := h.app (.one h2)
theorem _root_.L2.Dp.list_inv {v : V} {ds : List PyData} (h : Dp K H v (.list ds)) : ∃ a xs, v = .ref a ∧ SqL K H a xs ∧ DpAll K H xs ds := by
  cases h with
  | lst hs ha => exact ⟨_, _, rfl, hs, ha⟩
theorem _root_.L2.Dp.tup_inv {v : V} {ds : List PyData} (h : Dp K H v (.tuple ds)) : ∃ a xs, v = .ref a ∧ SqT K H a xs ∧ DpAll K H xs ds := by
  cases h with
  | tup hs ha => exact ⟨_, _, rfl, hs, ha⟩
theorem _root_.L2.Dp.str_inv {v : V} {x : Str} (h : Dp K H v (.str x)) : v = .str x := by cases h; rfl
theorem _root_.L2.Dp.int_inv {v : V} {x : Int} (h : Dp K H v (.int x)) : v = .int x := by cases h; rfl
/-- texts, ints, bools, none: the value itself -/
def flD : PyData → Option V
  | .none => some .non
  | .bool b => some (.bl b)
  | .int i => some (.int i)
  | .str x => some (.str x)
  | _ => none
def flAll : List PyData → Option (List V)
  | [] => some []
  | d :: ds => match flD d, flAll ds with
    | some v, some vs => some (v :: vs)
    | _, _ => none
theorem flD_inv {d : PyData} {v w : V} (e : flD d = some w) (h : Dp K H v d) : v = w := by
  cases h <;> simp [flD] at e <;> exact e
theorem flD_mk {d : PyData} {w : V} (e : flD d = some w) : Dp K H w d := by
  cases d <;> simp [flD] at e <;> subst e
  · exact .non
  · exact .bl _
  · exact .int _
  · exact .str _
theorem flAll_inv : ∀ {ds : List PyData} {vs ws : List V}, flAll ds = some ws → DpAll K H vs ds → vs = ws
  | [], _, _, e, h => by cases h; simp [flAll] at e; exact e.symm ▸ rfl
  | d :: ds, _, _, e, h => by
    cases h with
    | cons hd ha =>
      unfold flAll at e
      split at e
      · rename_i v vs e1 e2
        cases e
        rw [flD_inv e1 hd, flAll_inv e2 ha]
      · cases e
theorem flAll_mk : ∀ {ds : List PyData} {ws : List V}, flAll ds = some ws → DpAll K H ws ds
  | [], _, e => by simp [flAll] at e; subst e; exact .nil
  | d :: ds, _, e => by
    unfold flAll at e
    split at e
    · rename_i v vs e1 e2
      cases e
      exact .cons (flD_mk e1) (flAll_mk e2)
    · cases e
/-- a tuple of scalars: its items -/
theorem _root_.L2.Dp.tup_flat {v : V} {ds : List PyData} {ws : List V} (h : Dp K H v (.tuple ds)) (e : flAll ds = some ws := by rfl) : ∃ a, v = .ref a ∧ SqT K H a ws := by
  obtain ⟨a, xs, rfl, hs, ha⟩ := h.tup_inv
  rw [flAll_inv e ha] at hs
  exact ⟨a, rfl, hs⟩
mutual
theorem eqv_self : ∀ d : PyData, PyData.canLay0 d = true → PyData.eqv d d = true
  | .none, _ => by simp [PyData.eqv]
  | .bool _, _ => by simp [PyData.eqv]
  | .int _, _ => by simp [PyData.eqv]
  | .str _, _ => by simp [PyData.eqv]
  | .list xs, h => by simp only [PyData.eqv]; exact eqvAll_self xs (by simpa [PyData.canLay0] using h)
  | .tuple xs, h => by simp only [PyData.eqv]; exact eqvAll_self xs (by simpa [PyData.canLay0] using h)
  | .dict _, h => by simp [PyData.canLay0] at h
theorem eqvAll_self : ∀ ds : List PyData, PyData.canLayAll0 ds = true → PyData.eqvAll ds ds = true
  | [], _ => by simp [PyData.eqvAll]
  | d :: ds, h => by
    have h' : d.canLay0 = true ∧ PyData.canLayAll0 ds = true := by simpa [PyData.canLayAll0] using h
    simp [PyData.eqvAll, eqv_self d h'.1, eqvAll_self ds h'.2]
end
/-- no bools, no dicts: == is equality -/
def noB : PyData → Bool
  | .none | .int _ | .str _ => true
  | .list xs | .tuple xs => noBAll xs
  | .bool _ | .dict _ => false
where noBAll : List PyData → Bool
  | [] => true
  | x :: xs => noB x && noBAll xs
mutual
theorem eqv_eq : ∀ d e : PyData, noB d = true → noB e = true → PyData.eqv d e = true → d = e
  | .none, e, _, _, h => by cases e <;> simp [PyData.eqv] at h ⊢
  | .int _, e, _, he, h => by cases e <;> simp [PyData.eqv, noB] at h he ⊢; exact h
  | .str _, e, _, _, h => by cases e <;> simp [PyData.eqv] at h ⊢; exact h
  | .list xs, e, hd, he, h => by
    cases e <;> simp [PyData.eqv] at h ⊢
    exact eqvAll_eq xs _ (by simpa [noB] using hd) (by simpa [noB] using he) h
  | .tuple xs, e, hd, he, h => by
    cases e <;> simp [PyData.eqv] at h ⊢
    exact eqvAll_eq xs _ (by simpa [noB] using hd) (by simpa [noB] using he) h
  | .bool _, _, hd, _, _ => by simp [noB] at hd
  | .dict _, _, hd, _, _ => by simp [noB] at hd
theorem eqvAll_eq : ∀ ds es : List PyData, noB.noBAll ds = true → noB.noBAll es = true → PyData.eqvAll ds es = true → ds = es
  | [], es, _, _, h => by cases es <;> simp [PyData.eqvAll] at h ⊢
  | d :: ds, es, hd, he, h => by
    cases es with
    | nil => simp [PyData.eqvAll] at h
    | cons e es =>
      simp [PyData.eqvAll] at h
      simp [noB.noBAll] at hd he
      rw [eqv_eq d e hd.1 he.1 h.1, eqvAll_eq ds es hd.2 he.2 h.2]
end
end
end Hk

/-! Own errors with one field: making, raising; a callee that may raise, called where it does not. -/
namespace Hk
open PySem PySem.Spec PyProof.Rows L2
theorem passN {X : Cx} : Passes (CX X.prog X.w) X E0 := fun _ _ _ _ _ _ _ h => by
  obtain ⟨_, _, _, _, _, _, _, _, _, _, _, _, hE⟩ := h
  exact hE.elim
/-- __init__(self, x): self.f = x -/
def sp_err1 (C : Addr) (f : Str) : Sp := fun vs H Q _ => ∃ (a : Addr) (v : V), vs = [.ref a, v] ∧ H a = some (exo a C none) ∧ ∀ dx, H dx = none → dx ≠ a → Q .non (upd (upd H dx (exd dx [(f, v)])) a (exo a C (some dx)))
section
variable {K : PySem.W.Frag} {σ : L2.St} {H : Hp} {D : Ends} {to te : TE} {f : Str} {C : Addr} {sp : Sp} {W : WX} {ta : TA} {v : V}
theorem rd_ost (h : te σ H fun y H1 => to σ H1 fun x H2 => ∃ a C : Addr, x = .ref a ∧ OexC K C ∧ PySem.W.findIn K (.ref C) f = some none ∧
  ((H2 a = some (exo a C none) ∧ ∀ dx, H2 dx = none → dx ≠ a → D.nx σ (upd (upd H2 dx (exd dx [(f, y)])) a (exo a C (some dx)))) ∨
    ∃ (dx : Addr) (fs : List (Str × V)), H2 a = some (exo a C (some dx)) ∧ H2 dx = some (exd dx fs) ∧ fs.length ≤ 900 ∧ D.nx σ (upd H2 dx (exd dx ((f, y) :: fs))))) : tOst K f to te D σ H := h
def tRaiseO (C : Addr) (sp : Sp) (W : WX) (ta : TA) : TS := fun _ σ H => tMkO C sp [] ta σ H fun cls d H' => W cls d σ H'
def RaiseK (C : Addr) (sp : Sp) (vs : List V) (H1 : Hp) (W : XK) : Prop := vs.length ≤ 1000 ∧ ∀ a, H1 a = none → sp (.ref a :: (vs ++ [])) (upd H1 a (exo a C none))
  (fun v H2 => v = .non ∧ ∃ (d : Addr) (fs : List (Str × V)), H2 a = some (exo a C (some d)) ∧ H2 d = some (exd d fs) ∧ H1 d = none ∧ W (.ref C) (some d) (upd (del H2 a) d (.xd fs))) (fun _ _ _ => False)
theorem rd_raiseO (h : ta σ H fun vs H1 => RaiseK C sp vs H1 fun cls d H' => W cls d σ H') : tRaiseO C sp W ta D σ H := h
theorem rd_err1 {W : XK} (h : ∀ d H', H d = none → Same H H' → H' d = some (.xd [(f, v)]) → W (.ref C) (some d) H') : RaiseK C (sp_err1 C f) [v] H W := by
  refine ⟨by simp, fun a ha => ⟨a, v, rfl, upd_same, fun dx hdx hne => ⟨rfl, dx, [(f, v)], upd_same, ?_, ?_, ?_⟩⟩⟩
  · rw [upd_ne hne]
    exact upd_same
  · rw [upd_ne hne] at hdx
    exact hdx
  · rw [upd_ne hne] at hdx
    refine h dx _ hdx (fun c o e => ?_) upd_same
    have c1 : c ≠ a := ne_of_none e ha
    have c2 : c ≠ dx := ne_of_none e hdx
    rw [upd_ne c2, del_ne c1, upd_ne c1, upd_ne c2, upd_ne c1]
    exact e
end
section
variable {X : Cx} {e : Expr} {es : List Expr} {ta : TA} {p pos : Pos}
theorem ps_raiseO {CX : CXT} {x : Str} {C fI : Addr} {k : Nat} {fd : FuncData} {ps : List Str} {sp : Sp} {W : WX} {pos2 : Pos} (hc : X.calm = true) (tk : Takes X W) (T : OexC X.K C) (iC : PySem.W.findIn X.K (.ref C) "__init__" = some (some (.ref fI))) (tI : PySem.W.typeIn X.K (.ref fI) = some (.type "function"))
    (F1 : FnOk X.prog X.w X.K X.mg X.base CX k fI fd ps sp) (hr : Room (k + 1) X.A) (hb : Binds X.K fd ps []) (hx : Passes CX X E0) (hg : Gl X x) (hm : X.mg x = some (.ref C)) (ha : PA X (e :: es) ta)
    (hdb : (x == ("__debug__" : Str)) = false := by decide) (he : starEach (e :: es) X.env = (false, eval e X.env) :: starEach es X.env := by rfl) (hpl : (backTo pos (starEach es X.env)).any (·.1) = false := by rfl) :
    PS X (.Raise (some (.Call (.Name x p) (e :: es) [] pos)) none pos2) (tRaiseO C sp W ta) := ps_raise hc tk (pmk_oex T iC tI F1 hr hb .nil hx hg hm ha hdb he hpl)
end
end Hk

/-! Steps in a heap with a frozen part: new things, the bag, comprehensions. -/
namespace Hk
open PySem PySem.Spec PyProof.Rows L2
/-- a display: a new tuple, a new list -/
def TupK (xs : List V) (H : Hp) (Q : VK) : Prop := xs.length ≤ sizeLine ∧ ∀ p, H p = none → Q (.ref p) (upd H p (.tup xs))
def LstK (xs : List V) (H : Hp) (Q : VK) : Prop := xs.length ≤ sizeLine ∧ ∀ p, H p = none → Q (.ref p) (upd H p (.lst xs))
theorem rd_tupK {tt : TA} {σ : L2.St} {H : Hp} {Q : VK} (h : tt σ H fun xs H1 => TupK xs H1 Q) : tTup tt σ H Q := h
theorem rd_lstK {tt : TA} {σ : L2.St} {H : Hp} {Q : VK} (h : tt σ H fun xs H1 => LstK xs H1 Q) : tLst tt σ H Q := h
section
variable {K : PySem.W.Frag} {F H : Hp} {Q : VK} {xs ys : List V} {ds es : List PyData} {S : List Addr} {p r : Addr}
theorem newL (fh : Same F H) (k : ∀ F' H' p, Grow [] F H F' H' → H p = none → F' p = some (.lst xs) → Q (.ref p) H') (hz : xs.length ≤ sizeLine := by exact sz_of (by simp)) : LstK xs H Q :=
  ⟨hz, fun p hp => k (upd F p (.lst xs)) _ p ((Grow.refl fh).new hp) hp upd_same⟩
theorem newT (fh : Same F H) (k : ∀ F' H' p, Grow [] F H F' H' → H p = none → F' p = some (.tup xs) → Q (.ref p) H') (hz : xs.length ≤ sizeLine := by exact sz_of (by simp)) : TupK xs H Q :=
  ⟨hz, fun p hp => k (upd F p (.tup xs)) _ p ((Grow.refl fh).new hp) hp upd_same⟩
/-- a new list that will be written -/
theorem newO (fh : Same F H) (k : ∀ H' p, Grow [] F H F H' → H p = none → Hold F H' p (.lst xs) → Q (.ref p) H') (hz : xs.length ≤ sizeLine := by exact sz_of (by simp)) : LstK xs H Q :=
  ⟨hz, fun p hp => k _ p ((Grow.refl fh).newO hp) hp (Hold.new fh hp)⟩
/-- .. of data -/
theorem newLD (fh : Same F H) (h : DpAll K F xs ds) (k : ∀ F' H' p, Grow [] F H F' H' → H p = none → Dp K F' (.ref p) (.list ds) → Q (.ref p) H') (hz : xs.length ≤ sizeLine := by exact sz_of (by simp)) : LstK xs H Q :=
  newL fh (fun F' H' p g n e => k F' H' p g n (.lst (sqL_of e) (h.mono g.ff))) hz
theorem newTD (fh : Same F H) (h : DpAll K F xs ds) (k : ∀ F' H' p, Grow [] F H F' H' → H p = none → Dp K F' (.ref p) (.tuple ds) → Q (.ref p) H') (hz : xs.length ≤ sizeLine := by exact sz_of (by simp)) : TupK xs H Q :=
  newT fh (fun F' H' p g n e => k F' H' p g n (.tup (sqT_of e) (h.mono g.ff))) hz
/-- list(x), x a list or a tuple -/
theorem new_list (fh : Same F H) (h : SqL K F r xs ∨ SqT K F r xs) (k : ∀ F' H' p, Grow [] F H F' H' → H p = none → F' p = some (.lst xs) → Q (.ref p) H') : rListOf K [.ref r] H Q :=
  ⟨r, xs, rfl, h.imp (fun z => fh.seq z) (fun z => sqT_same fh z), fun l hl => k (upd F l (.lst xs)) _ l ((Grow.refl fh).new hl) hl upd_same⟩
/-- x + y of lists: what stands in the heap -/
theorem new_cat (fh : Same F H) (h1 : H p = some (.lst xs)) (h2 : H r = some (.lst ys)) (hz : xs.length + ys.length ≤ 100000) (k : ∀ F' H' l, Grow [] F H F' H' → H l = none → F' l = some (.lst (xs ++ ys)) → Q (.ref l) H') : rCat (.ref p) (.ref r) H Q :=
  ⟨p, r, xs, ys, rfl, rfl, h1, h2, sz_of hz, fun l hl => k (upd F l (.lst (xs ++ ys))) _ l ((Grow.refl fh).new hl) hl upd_same⟩
/-- == of data -/
theorem eq_dat {x y : V} {d : PyData} (hx : Dp K F x d) (hy : Dp K F y d) (fh : Same F H) (s : SeqAt.shaped d = true) (q : Q (.bl true) H) : rEqD K x y H Q :=
  rd_eqD (hx.mono fh) (hy.mono fh) s s (by
    have h : PyData.canLay0 d = true := by
      have := s
      unfold SeqAt.shaped at this
      rw [Bool.and_eq_true] at this
      exact this.1
    rw [eqv_self d h]; exact q)
theorem ne_dat {x y : V} {d : PyData} (hx : Dp K F x d) (hy : Dp K F y d) (fh : Same F H) (s : SeqAt.shaped d = true) (q : Q (.bl false) H) : rNeD K x y H Q :=
  rd_neD (hx.mono fh) (hy.mono fh) s s (by
    have h : PyData.canLay0 d = true := by
      have := s
      unfold SeqAt.shaped at this
      rw [Bool.and_eq_true] at this
      exact this.1
    rw [eqv_self d h]; exact q)
/-- the bag of a law: two numbers, written by each draw -/
structure Bag (F H : Hp) (b : Addr) : Prop where
  fh : Same F H
  fb : F b = none
  hb : ∃ d m : Int, H b = some (.lst [.int d, .int m])
theorem Bag.nn {b : Addr} (h : Bag F H b) : H b ≠ none := by
  obtain ⟨d, m, e⟩ := h.hb
  exact some_ne e
theorem Bag.go0 {b : Addr} {F' H' : Hp} (h : Bag F H b) (g : Grow [] F H F' H') : Bag F' H' b := by
  obtain ⟨d, m, e⟩ := h.hb
  exact ⟨g.fh, (g.own b h.fb h.nn).1, d, m, g.same _ _ e⟩
theorem Bag.mk' {b : Addr} {F' H' : Hp} (h : Bag F H b) (g : Grow [b] F H F' H') (e : ∃ d m : Int, H' b = some (.lst [.int d, .int m])) : Bag F' H' b := ⟨g.fh, (g.own b h.fb h.nn).1, e⟩
theorem Bag.turn {b : Addr} (h : Bag F H b) (d m : Int) : Grow [b] F H F (upd H b (.lst [.int d, .int m])) ∧ Bag F (upd H b (.lst [.int d, .int m])) b :=
  ⟨(Grow.refl h.fh).mut h.fb (.inl (by simp)), same_mut h.fh h.fb, h.fb, d, m, upd_same⟩
theorem Bag.mut {b p : Addr} {o u : HO} (h : Bag F H b) (hp : Hold F H p o) (n : p ≠ b) : Bag F (upd H p u) b := by
  obtain ⟨d, m, e⟩ := h.hb
  exact ⟨same_mut h.fh hp.f, h.fb, d, m, upd_old n.symm e⟩
theorem Hold.goB {F' H' : Hp} {p b : Addr} {o : HO} (h : Hold F H p o) (g : Grow [b] F H F' H') (n : p ≠ b) : Hold F' H' p o := h.go g (by simpa using n)
end
section
variable {K : PySem.W.Frag} {σ : L2.St} {F H : Hp} {g : TG} {tt : TT} {te : TE} {vs : List Nat} {Q : VK} {S : List Addr}
/-- a comprehension, turn by turn: A tells of the turn, the frozen part and what is made so far; Z of the frozen part and the heap -/
theorem lcG {J : It} {n : Nat} {X : Nat → V → Prop} (A : Nat → Hp → List V → Prop) (Z : Hp → Hp → Prop) (fh : Same F H) (hz : n ≤ 100000)
    (hst : ∀ H', Same F H' → J.stop n H') (hgo : ∀ i H', Same F H' → i < n → J.go i H') (hy : ∀ i H1 x H2, i < n → Same F H1 → J.yld i H1 x H2 → H2 = H1 ∧ X i x)
    (a0 : A 0 F []) (z0 : Z F H) (zup : ∀ F' H' D o, Z F' H' → H D = none → F' D = none → Z F' (upd H' D o)) (al : ∀ i F' acc, A i F' acc → acc.length ≤ i) (am : ∀ i F1 F2 acc, Same F1 F2 → A i F1 acc → A i F2 acc)
    (turn : ∀ i x F1 H1 acc, i < n → X i x → Grow S F H F1 H1 → Z F1 H1 → A i F1 acc → ∀ (Done : Hp → Prop) (Kept : VK), (∀ F2 H2, Grow S F1 H1 F2 H2 → Z F2 H2 → A (i + 1) F2 acc → Done H2) →
      (∀ F2 H2 y, Grow S F1 H1 F2 H2 → Z F2 H2 → A (i + 1) F2 (acc ++ [y]) → Kept y H2) →
      g x (wipe σ vs) H1 fun σ2 H2 => wipe σ2 vs = wipe σ vs ∧ tt σ2 H2 fun b H3 => if b = true then te σ2 H3 Kept else Done H3)
    (hS : ∀ D, H D = none → D ∉ S)
    (q : ∀ F' H' D acc, Grow S F H F' H' → Z F' H' → H D = none → Hold F' H' D (.lst acc) → A n F' acc → Q (.ref D) H') : LcK J g tt te vs σ H Q := by
  intro D hD
  have fD : F D = none := fh.free hD
  have nD : D ∉ S := hS D hD
  refine ⟨fun i m H' => m = n - i ∧ i ≤ n ∧ ∃ F' acc, Grow S F H F' H' ∧ Z F' H' ∧ Hold F' H' D (.lst acc) ∧ A i F' acc, ⟨n, by simp, Nat.zero_le _, F, [], (Grow.refl fh).newO hD, zup _ _ _ _ z0 hD fD, Hold.new fh hD, a0⟩, ?_⟩
  rintro i m H1 ⟨rfl, hi, F1, acc, g1, z1, d1, a1⟩
  have s1 : Same F H1 := g1.ff.trans g1.fh
  by_cases hlt : i < n
  · refine .inr ⟨hgo i H1 s1 hlt, fun H' => i + 1 ≤ n ∧ ∃ F' acc, Grow S F H F' H' ∧ Z F' H' ∧ Hold F' H' D (.lst acc) ∧ A (i + 1) F' acc, fun H' p' => ⟨n - (i + 1), by omega, rfl, p'⟩, fun x H2 y => ?_⟩
    obtain ⟨rfl, hx⟩ := hy i H1 x H2 hlt s1 y
    refine turn i x F1 H2 acc hlt hx g1 z1 a1 _ _ (fun F3 H3 g3 z3 a3 => ?_) (fun F3 H3 y g3 z3 a3 => ?_)
    · exact ⟨hlt, F3, acc, g1.trans g3, z3, d1.go g3 nD, a3⟩
    · have d3 := d1.go g3 nD
      refine ⟨acc, d3.h, ?_, hlt, F3, acc ++ [y], (g1.trans g3).mut d3.f (.inr hD), zup _ _ _ _ z3 hD d3.f, d3.put, a3⟩
      have := al _ _ _ a1
      rw [sizeLine_eq]
      omega
  · have e : i = n := by omega
    subst e
    exact .inl ⟨hst H1 s1, q F1 H1 D acc g1 z1 hD d1 a1⟩
/-- pure, over a frozen list -/
theorem lcPL {a : Addr} {xs : List V} (A : Nat → Hp → List V → Prop) (fh : Same F H) (hx : SqL K F a xs) (hz : xs.length ≤ 100000)
    (a0 : A 0 F []) (al : ∀ i F' acc, A i F' acc → acc.length ≤ i) (am : ∀ i F1 F2 acc, Same F1 F2 → A i F1 acc → A i F2 acc)
    (turn : ∀ i x F1 H1 acc, i < xs.length → xs[i]? = some x → Grow [] F H F1 H1 → A i F1 acc → ∀ (Done : Hp → Prop) (Kept : VK), (∀ F2 H2, Grow [] F1 H1 F2 H2 → A (i + 1) F2 acc → Done H2) →
      (∀ F2 H2 y, Grow [] F1 H1 F2 H2 → A (i + 1) F2 (acc ++ [y]) → Kept y H2) →
      g x (wipe σ vs) H1 fun σ2 H2 => wipe σ2 vs = wipe σ vs ∧ tt σ2 H2 fun b H3 => if b = true then te σ2 H3 Kept else Done H3)
    (q : ∀ F' H' D acc, Grow [] F H F' H' → H D = none → Hold F' H' D (.lst acc) → A xs.length F' acc → Q (.ref D) H') : LcK (Itl K a) g tt te vs σ H Q :=
  lcG (X := fun i x => xs[i]? = some x) A (fun _ _ => True) fh hz (fun H' s => ⟨xs, s.seq hx, Nat.le_refl _⟩) (fun i H' s hi => ⟨xs, xs[i], s.seq hx, by simp [hi]⟩)
    (fun i H1 x H2 hi s1 y => by obtain ⟨rfl, y⟩ := y; exact ⟨rfl, y xs (s1.seq hx)⟩) a0 trivial (fun _ _ _ _ _ _ _ => trivial) al am
    (fun i x F1 H1 acc hi hx' g1 _ a1 Done Kept hd hk => turn i x F1 H1 acc hi hx' g1 a1 Done Kept (fun F2 H2 g2 a2 => hd F2 H2 g2 trivial a2) fun F2 H2 y g2 a2 => hk F2 H2 y g2 trivial a2)
    (fun _ _ => by simp) fun F' H' D acc g' _ n h a' => q F' H' D acc g' n h a'
theorem lcPT {a : Addr} {xs : List V} (A : Nat → Hp → List V → Prop) (fh : Same F H) (hx : SqT K F a xs) (hz : xs.length ≤ 100000)
    (a0 : A 0 F []) (al : ∀ i F' acc, A i F' acc → acc.length ≤ i) (am : ∀ i F1 F2 acc, Same F1 F2 → A i F1 acc → A i F2 acc)
    (turn : ∀ i x F1 H1 acc, i < xs.length → xs[i]? = some x → Grow [] F H F1 H1 → A i F1 acc → ∀ (Done : Hp → Prop) (Kept : VK), (∀ F2 H2, Grow [] F1 H1 F2 H2 → A (i + 1) F2 acc → Done H2) →
      (∀ F2 H2 y, Grow [] F1 H1 F2 H2 → A (i + 1) F2 (acc ++ [y]) → Kept y H2) →
      g x (wipe σ vs) H1 fun σ2 H2 => wipe σ2 vs = wipe σ vs ∧ tt σ2 H2 fun b H3 => if b = true then te σ2 H3 Kept else Done H3)
    (q : ∀ F' H' D acc, Grow [] F H F' H' → H D = none → Hold F' H' D (.lst acc) → A xs.length F' acc → Q (.ref D) H') : LcK (Itt K a) g tt te vs σ H Q :=
  lcG (X := fun i x => xs[i]? = some x) A (fun _ _ => True) fh hz (fun H' s => ⟨xs, sqT_same s hx, Nat.le_refl _⟩) (fun i H' s hi => ⟨xs, xs[i], sqT_same s hx, by simp [hi]⟩)
    (fun i H1 x H2 hi s1 y => by obtain ⟨rfl, y⟩ := y; exact ⟨rfl, y xs (sqT_same s1 hx)⟩) a0 trivial (fun _ _ _ _ _ _ _ => trivial) al am
    (fun i x F1 H1 acc hi hx' g1 _ a1 Done Kept hd hk => turn i x F1 H1 acc hi hx' g1 a1 Done Kept (fun F2 H2 g2 a2 => hd F2 H2 g2 trivial a2) fun F2 H2 y g2 a2 => hk F2 H2 y g2 trivial a2)
    (fun _ _ => by simp) fun F' H' D acc g' _ n h a' => q F' H' D acc g' n h a'
/-- with draws, over a frozen list -/
theorem lcBL {a b : Addr} {xs : List V} (A : Nat → Hp → List V → Prop) (hb : Bag F H b) (hx : SqL K F a xs) (hz : xs.length ≤ 100000)
    (a0 : A 0 F []) (al : ∀ i F' acc, A i F' acc → acc.length ≤ i) (am : ∀ i F1 F2 acc, Same F1 F2 → A i F1 acc → A i F2 acc)
    (turn : ∀ i x F1 H1 acc, i < xs.length → xs[i]? = some x → Grow [b] F H F1 H1 → Bag F1 H1 b → A i F1 acc → ∀ (Done : Hp → Prop) (Kept : VK), (∀ F2 H2, Grow [b] F1 H1 F2 H2 → Bag F2 H2 b → A (i + 1) F2 acc → Done H2) →
      (∀ F2 H2 y, Grow [b] F1 H1 F2 H2 → Bag F2 H2 b → A (i + 1) F2 (acc ++ [y]) → Kept y H2) →
      g x (wipe σ vs) H1 fun σ2 H2 => wipe σ2 vs = wipe σ vs ∧ tt σ2 H2 fun b H3 => if b = true then te σ2 H3 Kept else Done H3)
    (q : ∀ F' H' D acc, Grow [b] F H F' H' → Bag F' H' b → H D = none → Hold F' H' D (.lst acc) → A xs.length F' acc → Q (.ref D) H') : LcK (Itl K a) g tt te vs σ H Q :=
  lcG (X := fun i x => xs[i]? = some x) A (fun F' H' => Bag F' H' b) hb.fh hz (fun H' s => ⟨xs, s.seq hx, Nat.le_refl _⟩) (fun i H' s hi => ⟨xs, xs[i], s.seq hx, by simp [hi]⟩)
    (fun i H1 x H2 hi s1 y => by obtain ⟨rfl, y⟩ := y; exact ⟨rfl, y xs (s1.seq hx)⟩) a0 hb
    (fun F' H' D o z n f => by
      obtain ⟨d, m, e⟩ := z.hb
      exact ⟨same_mut z.fh f, z.fb, d, m, upd_old (fun q => hb.nn (q ▸ n)) e⟩) al am turn
    (fun D n => by simp; exact fun q => hb.nn (q ▸ n)) q
theorem rng_yld {n : Nat} {i : Nat} {H1 H2 : Hp} {x : V} (h : (Itr 0 n).yld i H1 x H2) : H2 = H1 ∧ x = .int (i : Int) := by
  obtain ⟨rfl, rfl⟩ := h
  have e : (0 : Int) + (i : Int) = (i : Int) := Int.zero_add _
  rw [e]
  exact ⟨rfl, rfl⟩
/-- over range(n) -/
theorem lcPR {n : Nat} (A : Nat → Hp → List V → Prop) (fh : Same F H) (hz : n ≤ 100000)
    (a0 : A 0 F []) (al : ∀ i F' acc, A i F' acc → acc.length ≤ i) (am : ∀ i F1 F2 acc, Same F1 F2 → A i F1 acc → A i F2 acc)
    (turn : ∀ (i : Nat) F1 H1 acc, i < n → Grow [] F H F1 H1 → A i F1 acc → ∀ (Done : Hp → Prop) (Kept : VK), (∀ F2 H2, Grow [] F1 H1 F2 H2 → A (i + 1) F2 acc → Done H2) →
      (∀ F2 H2 y, Grow [] F1 H1 F2 H2 → A (i + 1) F2 (acc ++ [y]) → Kept y H2) →
      g (.int (i : Int)) (wipe σ vs) H1 fun σ2 H2 => wipe σ2 vs = wipe σ vs ∧ tt σ2 H2 fun b H3 => if b = true then te σ2 H3 Kept else Done H3)
    (q : ∀ F' H' D acc, Grow [] F H F' H' → H D = none → Hold F' H' D (.lst acc) → A n F' acc → Q (.ref D) H') : LcK (Itr 0 n) g tt te vs σ H Q :=
  lcG (X := fun i x => x = .int (i : Int)) A (fun _ _ => True) fh hz (fun H' s => Nat.le_refl _) (fun i H' s hi => hi)
    (fun i H1 x H2 hi s1 y => rng_yld y) a0 trivial (fun _ _ _ _ _ _ _ => trivial) al am
    (fun i x F1 H1 acc hi hx' g1 _ a1 Done Kept hd hk => by subst hx'; exact turn i F1 H1 acc hi g1 a1 Done Kept (fun F2 H2 g2 a2 => hd F2 H2 g2 trivial a2) fun F2 H2 y g2 a2 => hk F2 H2 y g2 trivial a2)
    (fun _ _ => by simp) fun F' H' D acc g' _ n h a' => q F' H' D acc g' n h a'
theorem lcBR {n : Nat} {b : Addr} (A : Nat → Hp → List V → Prop) (hb : Bag F H b) (hz : n ≤ 100000)
    (a0 : A 0 F []) (al : ∀ i F' acc, A i F' acc → acc.length ≤ i) (am : ∀ i F1 F2 acc, Same F1 F2 → A i F1 acc → A i F2 acc)
    (turn : ∀ (i : Nat) F1 H1 acc, i < n → Grow [b] F H F1 H1 → Bag F1 H1 b → A i F1 acc → ∀ (Done : Hp → Prop) (Kept : VK), (∀ F2 H2, Grow [b] F1 H1 F2 H2 → Bag F2 H2 b → A (i + 1) F2 acc → Done H2) →
      (∀ F2 H2 y, Grow [b] F1 H1 F2 H2 → Bag F2 H2 b → A (i + 1) F2 (acc ++ [y]) → Kept y H2) →
      g (.int (i : Int)) (wipe σ vs) H1 fun σ2 H2 => wipe σ2 vs = wipe σ vs ∧ tt σ2 H2 fun b H3 => if b = true then te σ2 H3 Kept else Done H3)
    (q : ∀ F' H' D acc, Grow [b] F H F' H' → Bag F' H' b → H D = none → Hold F' H' D (.lst acc) → A n F' acc → Q (.ref D) H') : LcK (Itr 0 n) g tt te vs σ H Q :=
  lcG (X := fun i x => x = .int (i : Int)) A (fun F' H' => Bag F' H' b) hb.fh hz (fun H' s => Nat.le_refl _) (fun i H' s hi => hi)
    (fun i H1 x H2 hi s1 y => rng_yld y) a0 hb
    (fun F' H' D o z n f => by
      obtain ⟨d, m, e⟩ := z.hb
      exact ⟨same_mut z.fh f, z.fb, d, m, upd_old (fun q => hb.nn (q ▸ n)) e⟩) al am
    (fun i x F1 H1 acc hi hx' g1 z1 a1 Done Kept hd hk => by subst hx'; exact turn i F1 H1 acc hi g1 z1 a1 Done Kept hd hk)
    (fun D n => by simp; exact fun q => hb.nn (q ▸ n)) q
/-- each row gives a datum or nothing: pure comprehension over a frozen list of data -/
theorem lcDat {ρ : Type} {a : Addr} {xs : List V} {rows : List ρ} {ds : ρ → PyData} (f : ρ → Bool) (v : ρ → PyData) (fh : Same F H) (hx : SqL K F a xs) (hd : DpAll K F xs (rows.map ds)) (hz : rows.length ≤ 100000)
    (turn : ∀ x r F1 H1, r ∈ rows → Dp K F1 x (ds r) → Grow [] F H F1 H1 → ∀ (Done : Hp → Prop) (Kept : VK), (∀ F2 H2, Grow [] F1 H1 F2 H2 → f r = false → Done H2) →
      (∀ F2 H2 y, Grow [] F1 H1 F2 H2 → f r = true → Dp K F2 y (v r) → Kept y H2) →
      g x (wipe σ vs) H1 fun σ2 H2 => wipe σ2 vs = wipe σ vs ∧ tt σ2 H2 fun b H3 => if b = true then te σ2 H3 Kept else Done H3)
    (q : ∀ F' H' D acc, Grow [] F H F' H' → H D = none → Hold F' H' D (.lst acc) → DpAll K F' acc ((rows.filter f).map v) → Q (.ref D) H') : LcK (Itl K a) g tt te vs σ H Q := by
  have hn : xs.length = rows.length := by simpa using hd.length
  refine lcPL (fun i F' acc => DpAll K F' acc (((rows.take i).filter f).map v)) fh hx (by omega) .nil (fun i F' acc h => ?_) (fun i F1 F2 acc s h => h.mono s) (fun i x F1 H1 acc hi hx' g1 a1 Done Kept hdn hk => ?_) (fun F' H' D acc g' n h a' => q F' H' D acc g' n h (by rw [hn, List.take_length] at a'; exact a'))
  · rw [h.length, List.length_map]
    have h1 := List.length_filter_le f (rows.take i)
    have h2 : (rows.take i).length ≤ i := by rw [List.length_take]; omega
    omega
  · obtain ⟨d, e, hd'⟩ := hd.get hx'
    rw [List.getElem?_map] at e
    have hr : i < rows.length := by omega
    rw [List.getElem?_eq_getElem hr] at e
    cases e
    refine turn x rows[i] F1 H1 (List.getElem_mem hr) (hd'.mono g1.ff) g1 Done Kept (fun F2 H2 g2 hf => ?_) (fun F2 H2 y g2 hf hv => ?_)
    · refine hdn F2 H2 g2 ?_
      rw [filter_take_succ f (List.getElem?_eq_getElem hr), hf]
      simp only [Bool.false_eq_true, if_false, List.append_nil]
      exact a1.mono g2.ff
    · refine hk F2 H2 y g2 ?_
      rw [filter_take_succ f (List.getElem?_eq_getElem hr), hf]
      simp only [if_true, List.map_append, List.map_cons, List.map_nil]
      exact (a1.mono g2.ff).snoc hv
end
end Hk

/-! unary operators and abs by own special methods -/
namespace Hk
open PySem PySem.Spec PyProof.Rows L2
section
variable {X : Cx} {n : Nat} {C : Addr} {sp : Sp} {E : XK}
def rUnO (C : Addr) (sp : Sp) (E : XK) : V → Hp → VK → Prop := fun x H Q => ∃ a dx fs, x = .ref a ∧ H a = some (.ins C dx fs) ∧ sp [.ref a] H Q E
theorem un_O {op : UnaryOp} {nm : Str} (G : Own X C nm n sp E) (hr : Room n X.A) (hop : (match op with | .Invert => some ("__invert__" : Str) | .UAdd => some "__pos__" | .USub => some "__neg__" | .Not => none) = some nm := by rfl) : UnR X (unaryOp op) (rUnO C sp E) := by
  obtain ⟨f, fd, ps, CX, F, hs, hf, hb, hx⟩ := G.ex
  intro pins s σ H x u Q I r h
  obtain ⟨a, dx, fs, rfl, ha, q⟩ := h
  cases r
  obtain ⟨mA, J, _⟩ := ins_get I.hok ha
  obtain ⟨od, J, _⟩ := J.look
  obtain ⟨m, hF⟩ := I.fr
  have sb : Sub X n X.A := ⟨hr, rfl⟩
  have z := run_sub (vs := [V.ref a]) sb F hb hx I (.cons rfl .nil) q
  unfold unaryOp
  refine wpAny_holding ?_
  cases op with
  | Not => cases hop
  | _ =>
    cases hop
    exact wpAny_bind (PySem.W.special_fn I.kIn J hs (beq_iff_eq.mp hf) (wpAny_mono z (fun v s' h' => wpAny_pure h') fun _ _ y => y))
def rAbsO (C : Addr) (sp : Sp) (E : XK) : List V → Hp → VK → Prop := fun xs H Q => ∃ a dx fs, xs = [.ref a] ∧ H a = some (.ins C dx fs) ∧ sp [.ref a] H Q E
theorem call_absO (G : Own X C "__abs__" n sp E) (hr : Room (n + 1) X.A) : CallR X (.builtin "abs") (rAbsO C sp E) := by
  obtain ⟨f, fd, ps, CX, F, hs, hf, hb, hx⟩ := G.ex
  intro pins s σ H xs us Q I r h
  obtain ⟨a, dx, fs, rfl, ha, q⟩ := h
  cases r with
  | cons r1 r2 =>
    cases r2
    cases r1
    obtain ⟨mA, J, _⟩ := ins_get I.hok ha
    obtain ⟨od, J, _⟩ := J.look
    have sb : Sub X n X.A.in1 := ⟨hr.in1, rfl⟩
    have z := run_sub (vs := [V.ref a]) sb F hb hx I (.cons rfl .nil) q
    refine PySem.Calls.call_function_entry kind_abs plain_abs entry_abs (args_abs _) ?_
    unfold Builtin.«abs»
    refine wpAny_bind (m := oneArg "abs" _) (wpAny_pure ?_)
    exact wpAny_bind (PySem.W.special_fn I.kIn J hs (beq_iff_eq.mp hf) (wpAny_mono z (fun v s' h' => wpAny_pure ⟨_, rfl, h'⟩) fun _ _ y => y))
theorem rd_unO {a dx : Addr} {fs : List (Str × V)} {H : Hp} {Q : VK} (h : H a = some (.ins C dx fs)) (q : sp [.ref a] H Q E) : rUnO C sp E (.ref a) H Q := ⟨a, dx, fs, rfl, h, q⟩
theorem rd_absO {a dx : Addr} {fs : List (Str × V)} {H : Hp} {Q : VK} (h : H a = some (.ins C dx fs)) (q : sp [.ref a] H Q E) : rAbsO C sp E [.ref a] H Q := ⟨a, dx, fs, rfl, h, q⟩
end
end Hk

/-! Operators between an instance and an int: o ** n, n * o -/
namespace Hk
open PySem PySem.Spec PyProof.Rows L2
theorem mul_inst (a : Int) (t : Tok) (x C dx : Addr) :
    Meets (Builtin.«int.__mul__» ⟨[.int a t, .ref x], []⟩) (fun _ R s => s.heap.get? x = some (PySem.W.instObj C dx) ∧ R (.ok (.ret Value.notImplemented)) s) :=
  .of_wp fun prog w A R s h => by obtain ⟨hp, g, d, tk, os⟩ := s; obtain ⟨hl, h⟩ := h; wp_walk; exact ⟨_, rfl, h⟩
section
variable {prog : Program} {w : World} {A : Around} {E : Value → Shared → Prop} {s : Shared} {K : PySem.W.Frag} {x C L f g dx : Addr} {h₀ : Heap} {m : Str → Option Value} {od : Option Obj}
open PySem.W in
theorem mulR_K {n : Int} {t : Tok} {Q : Value → Shared → Prop} (F : Fr h₀ L s.heap m) (X₀ : K.In h₀) (I : InstAt s.heap x (instObj C dx) C od) (hc : selfFirst K C = true)
    (hs : findIn K (.ref C) (PySem.dunder "mul") = some (some (.ref g))) (hr : findIn K (.ref C) (dunderR "mul") = some (some (.ref f))) (hf : isFn K (.ref f) = true) (hsub : subIn K (.ref C) (.type "int") = some false)
    (h : wpAny (model prog w) A (call (.ref f) [.ref x, .int n t]) (PySem.W.CmpBack Q) E s) : wpAny (model prog w) A (binaryOp .Mult (.int n t) (.ref x)) Q E s := by
  have X := X₀.keeps F.keep
  obtain ⟨cd, rest, hcd, hm⟩ := ksp_first hc
  have two := ksp_try X I hr hf h
  have one : wpAny (model prog w) A (tryMethod (.int n t) (PySem.dunder "mul") (.ref x)) (fun r s' => r = none ∧ s' = s) E s :=
    wpAny_tryMethod_declines (typeIs_int s n t) PySem.F.slot_int_mul (call_meets PySem.F.slot_int_mul (typeIs_int s n t) PySem.F.entry_int_mul (PySem.F.args_int_mul_2 _ _) (mul_inst n t x C dx) ⟨I.at_, rfl, rfl, rfl⟩)
  have L1 : Looks (model prog w) s.heap (typeOf (.int n t)) (.type "int") := Looks.of_pure rfl
  have L2 : Looks (model prog w) s.heap (typeOf (.ref x)) (.ref C) := I.type
  have L3 : Looks (model prog w) s.heap (fillsNumberSlot (.ref C) "mul") true := fills_K X hcd hm hs
  have L4 : Looks (model prog w) s.heap (fillsNumberSlot (.type "int") "mul") true := Looks.of_pure PySem.F.fills_int_mul
  have L5 : Looks (model prog w) s.heap (isSubtype (.ref C) (.type "int")) false := looks_subIn X hsub
  have L7 : Looks (model prog w) s.heap (numberSlotInPython (.type "int") "mul") false := Looks.of_pure rfl
  have hne : (Value.type "int" == Value.ref C) = false := Bool.eq_false_iff.mpr fun q => by cases beq_iff_eq.mp q
  unfold binaryOp
  refine wpAny_holding (wpAny_bind ?_)
  unfold binaryOp1
  refine wpAny_bind (L1.here (wpAny_bind (L2.here (wpAny_bind (L4.here ?_)))))
  simp only [hne, Bool.false_eq_true, if_false]
  refine wpAny_bind (L3.here ?_)
  simp only [Bool.and_self, if_true]
  refine wpAny_bind (L5.here ?_)
  simp only [Bool.false_eq_true, if_false, Bool.not_false, Bool.and_self, if_true]
  refine wpAny_bind (L7.here ?_)
  simp only [Bool.false_eq_true, if_false]
  refine wpAny_bind (wpAny_mono one (fun r s' z => ?_) fun _ _ e => e)
  obtain ⟨rfl, rfl⟩ := z
  simp only [Bool.false_eq_true, if_false, Bool.not_false, Bool.and_self, if_true]
  refine wpAny_bind (wpAny_mono two (fun r s' z => ?_) fun _ _ e => e)
  obtain ⟨v, rfl, hq⟩ := z
  refine wpAny_bind (wpAny_rule ?_)
  exact wpAny_pure (wpAny_pure hq)
end
section
variable {X : Cx} {n : Nat} {C g : Addr} {sp : Sp} {E : XK}
def rRMul (C : Addr) (sp : Sp) (E : XK) : R2 := fun x y H Q => ∃ (i : Int) (a dx : Addr) (fs : List (Str × V)), x = .int i ∧ y = .ref a ∧ H a = some (.ins C dx fs) ∧ sp [.ref a, .int i] H (fun v H' => ∃ p, v = .ref p ∧ Q (.ref p) H') E
def rBinI (C : Addr) (sp : Sp) (E : XK) : R2 := fun x y H Q => ∃ (i : Int) (a dx : Addr) (fs : List (Str × V)), x = .ref a ∧ y = .int i ∧ H a = some (.ins C dx fs) ∧ sp [.ref a, .int i] H (fun v H' => ∃ p, v = .ref p ∧ Q (.ref p) H') E
/-- n * o -/
theorem op_rmulO (G : Own X C (dunderR "mul") n sp E) (hs' : PySem.W.findIn X.K (.ref C) (dunder "mul") = some (some (.ref g))) (hc : PySem.W.selfFirst X.K C = true) (hsub : PySem.W.subIn X.K (.ref C) (.type "int") = some false) (hr : Room n X.A) : OpR X (binaryOp .Mult) (rRMul C sp E) := by
  obtain ⟨f, fd, ps, CX, F, hs, hf, hb, hx⟩ := G.ex
  intro pins s σ H x y v u Q I rx ry h
  obtain ⟨i, a, dx, fs, rfl, rfl, ha, q⟩ := h
  obtain ⟨t, rfl⟩ := (show ∃ t, v = Value.int i t from rx)
  cases ry
  obtain ⟨mA, J, _⟩ := ins_get I.hok ha
  obtain ⟨od, J, _⟩ := J.look
  obtain ⟨m, hF⟩ := I.fr
  have sb : Sub X n X.A := ⟨hr, rfl⟩
  refine mulR_K hF I.ok.mod.kin J hc hs' hs hf hsub ?_
  refine thn (run_sub (vs := [V.ref a, V.int i]) sb F hb hx I (.cons rfl (.cons ⟨t, rfl⟩ .nil)) q) fun w1 s1 hh => ?_
  obtain ⟨z, H1, I1, rv, p, rfl, q1⟩ := hh
  cases rv
  exact ⟨.ref p, H1, I1, rfl, q1⟩
/-- o op n -/
theorem op_binOI {op : Operator} {fo ro rc : Option Value} (G : Own X C (dunder op.info.snd) n sp E) (hc : PySem.W.selfFirst X.K C = true) (hrc : PySem.W.findIn X.K (.ref C) (dunderR op.info.2) = some rc) (hp : rc = none ∨ ∃ g : Addr, rc = some (.ref g))
    (h1 : PySem.W.findIn X.K (.type "int") (dunder op.info.2) = some fo) (h2 : PySem.W.findIn X.K (.type "int") (dunderR op.info.2) = some ro) (hsub : PySem.W.subIn X.K (.type "int") (.ref C) = some false) (hr : Room n X.A) : OpR X (binaryOp op) (rBinI C sp E) := by
  obtain ⟨f, fd, ps, CX, F, hs, hf, hb, hx⟩ := G.ex
  intro pins s σ H x y v u Q I rx ry h
  obtain ⟨i, a, dx, fs, rfl, rfl, ha, q⟩ := h
  cases rx
  obtain ⟨t, rfl⟩ := (show ∃ t, u = Value.int i t from ry)
  obtain ⟨mA, J, _⟩ := ins_get I.hok ha
  obtain ⟨od, J, _⟩ := J.look
  obtain ⟨m, hF⟩ := I.fr
  have sb : Sub X n X.A := ⟨hr, rfl⟩
  refine PySem.W.ksp_binT hF I.ok.mod.kin J rfl hc hs hf hrc hp h1 h2 hsub ?_
  refine thn (run_sub (vs := [V.ref a, V.int i]) sb F hb hx I (.cons rfl (.cons ⟨t, rfl⟩ .nil)) q) fun w1 s1 hh => ?_
  obtain ⟨z, H1, I1, rv, p, rfl, q1⟩ := hh
  cases rv
  exact ⟨.ref p, H1, I1, rfl, q1⟩
theorem rd_rmul {a dx : Addr} {fs : List (Str × V)} {i : Int} {H : Hp} {Q : VK} (h : H a = some (.ins C dx fs)) (q : sp [.ref a, .int i] H (fun v H' => ∃ p, v = .ref p ∧ Q (.ref p) H') E) : rRMul C sp E (.int i) (.ref a) H Q := ⟨i, a, dx, fs, rfl, rfl, h, q⟩
theorem rd_binI {a dx : Addr} {fs : List (Str × V)} {i : Int} {H : Hp} {Q : VK} (h : H a = some (.ins C dx fs)) (q : sp [.ref a, .int i] H (fun v H' => ∃ p, v = .ref p ∧ Q (.ref p) H') E) : rBinI C sp E (.ref a) (.int i) H Q := ⟨i, a, dx, fs, rfl, rfl, h, q⟩
end
end Hk

/-! Catching own errors that have fields: e.f, isinstance(e, C), class methods called in a try. -/
namespace Hk
open PySem PySem.Spec PyProof.Rows L2
section
variable {X : Cx} {a D : Addr} {oe : Obj} {cls : Value} {d : Option Addr} {pn : List (Addr × Obj)}
def rIsX (K : PySem.W.Frag) (D a : Addr) (cls : Value) (d : Option Addr) : List V → Hp → VK → Prop := fun xs H Q => ∃ (c : V) (u : Value) (b : Bool) (dd : Addr) (fs : List (Str × V)), xs = [.ref a, c] ∧ cls = .ref D ∧ d = some dd ∧ H dd = some (.xd fs) ∧ ClsV c u ∧ PySem.W.kitOne K (.ref D) u = some b ∧ Q (.bl b) H
theorem call_isX (G : ExcC X.K D) (hz : Zc cls d oe) (hf : ∃ vs, oe.data = .fields vs) : CallR (X.suite a ((a, oe) :: pn)) (.builtin "isinstance") (rIsX X.K D a cls d) := by
  intro pins s σ H xs us Q I r h
  obtain ⟨c, u, b, dd, fs, ex, ec, ed, ea, k, e, q⟩ := h
  subst ex ec ed
  obtain ⟨u1, u2, rfl, r1, r2⟩ := vals2 r
  cases (show u1 = Value.ref a from r1)
  have e2 := k.eq r2
  subst e2
  obtain ⟨hg, _⟩ := I.pin (a, oe) (List.mem_append_left _ List.mem_cons_self)
  obtain ⟨vs, hv⟩ := hf
  obtain ⟨mA, hns, _⟩ := (show ObjOk X.prog X.w H s.heap dd (.xd fs) from I.hok dd _ ea)
  obtain ⟨od, ho, _⟩ := lookIn_ns hns
  have J : PySem.W.InstAt s.heap a oe D (some od) := by
    refine ⟨hg, hz.1, ?_, ?_⟩
    · unfold PySem.W.notCls
      rw [hv] <;> rfl
    · rw [hz.2]
      exact ho
  have hcl : (PySem.W.clsIn X.K D).isSome = true := by
    obtain ⟨cd, h1, _⟩ := PySem.W.any_some G.hd
    rw [h1]
    rfl
  exact PySem.W.kia_one (PySem.W.kitx_exc hcl G.hg G.hk G.hs G.ha G.hn G.ht G.hm) I.kIn J e (fun z => nomatch z) fun tk => ⟨.bl b, H, I.tok tk, rfl, q⟩
end
section
variable {X : Cx} {CX : CXT} {k : Nat} {f C p g : Addr} {mc : Value} {sp : Sp} {E : L2.St → XK} {o e : Expr} {es : List Expr} {m : Str} {pos apos : Pos} {ta : TE} {t : TA} {pl : Sem Bool}
theorem run_at {pins : List (Addr × Obj)} {σ : L2.St} {H : Hp} {s : Shared} {Q : VK} {us : List Value} {vs : List V} {E1 : XK} (F : FnR X.prog X.w X.K X.mg X.base CX k f sp) (hr : Room k X.A) (hx : PassesAt CX X σ E1) (I : Inv X pins σ H s) (rv : Vals vs us) (h : sp vs H Q E1) :
    codeAny (model X.prog X.w) X.A (.call (.ref f) ⟨us, []⟩) (fun r s' => match r with | .ok (.ret v) => EP X pins σ Q v s' | .ok _ => False | .error e => X.xe e s') s :=
  codeAny_mono (F X.A X.stack s H us vs Q E1 hr I.env0 rv h) fun r s' hq => match r, hq with
    | .error e, hq => hx pins H s e s' I hq
    | .ok (.ret _), hq => I.after hq
    | .ok .next, hq => False.elim hq
    | .ok .brk, hq => False.elim hq
    | .ok .cont, hq => False.elim hq
/-- C.m(..), m a class method that may raise, in a try -/
def tCMethS (C : Addr) (sp : Sp) (E : L2.St → XK) (ta : TE) (t : TA) : TE := fun σ H Q => ta σ H fun x H1 => x = .ref C ∧ t σ H1 fun vs H2 => sp (.ref C :: vs) H2 Q (E σ)
theorem pe_cmethS (he : PE X o ta) (r : ClX.CRead X.K C mc) (c : ClX.CMet X.K C mc m p g) (F : FnR X.prog X.w X.K X.mg X.base CX k g sp) (hr : Room k X.A) (hx : ∀ σ, PassesAt CX X σ (E σ)) (ha : PA X (e :: es) t)
    (h1 : starEach (e :: es) X.env = (false, eval e X.env) :: starEach es X.env := by rfl) (h2 : (backTo pos (starEach es X.env)).any (·.1) = false := by rfl)
    (h3 : eval (.Call (.Attribute o m apos) (e :: es) [] pos) X.env = (do
      let ov ← eval o X.env
      standAt apos.atName
      let (f, first) ← holding [ov] (getMethod ov m pl)
      callWith pos f first (backTo pos (starEach (e :: es) X.env)) (backToKw pos (keywordEach [] X.env))) := by rfl) :
    PE X (.Call (.Attribute o m apos) (e :: es) [] pos) (tCMethS C sp E ta t) := by
  refine ⟨fun pins s σ H Q I h => ?_⟩
  refine PySem.W.methodCall_KW (pl := pl) (thn (he.run pins s σ H _ I h) fun u s1 ⟨x, H1, I1, rx, ex, q⟩ => ?_) h3
  subst ex
  obtain rfl : u = Value.ref C := rx
  refine ClX.getmethcm_ok I1 r c fun s2 I2 => ?_
  refine ClX.callwith_cm I2 (ClX.base_none I1 (Nat.le_refl _)) c.fi (thn (ha.run pos _ s2 σ H1 _ I2 q) fun us s3 ⟨vs, H2, I3, rv, q2⟩ => ⟨⟨ClX.pin_at I3, I3.kIn⟩, ?_⟩) h1 h2
  refine thn (wpAny_call (PySem.W.method_call (ClX.pin_at I3) (run_at (us := .ref C :: us) (vs := .ref C :: vs) F hr (hx σ) I3 (.cons rfl rv) q2))) fun _ _ y => ClX.unpinE y
end
section
variable {K : PySem.W.Frag} {σ : L2.St} {H : Hp} {Q : VK} {a D dd : Addr} {cls c : Value} {d : Option Addr} {i : Nat} {ts : Addr → Value → Option Addr → TS} {Wout : WX} {De : Ends} {te ta : TE} {tt : TA} {f : Str} {v : V} {sp : Sp} {E : L2.St → XK} {C : Addr}
theorem rd_wAs (e : PySem.W.exmOne K cls c = some true) (h : ∀ a, H a = none → ts a cls d ⟨fun σ' H' => De.nx (σ'.set i none) H', De.rt, fun σ' H' => De.bk (σ'.set i none) H', fun σ' H' => De.ct (σ'.set i none) H'⟩ (σ.set i (some (.ref a))) H) : wAs K c i ts Wout De cls d σ H :=
  ⟨true, e, fun _ => h, fun q => Bool.noConfusion q⟩
theorem rd_xf (h : te σ H fun x H1 => x = .ref a ∧ cls = .ref C ∧ ∃ (dd : Addr) (fs : List (Str × V)) (v : V), d = some dd ∧ H1 dd = some (.xd fs) ∧ fs.lookup f = some v ∧ Q v H1) : tXf a cls d C f te σ H Q := h
theorem rd_xfK (e : H dd = some (.xd [(f, v)])) (q : Q v H) : V.ref a = .ref a ∧ (Value.ref C) = .ref C ∧ ∃ (dd' : Addr) (fs : List (Str × V)) (v : V), (some dd) = some dd' ∧ H dd' = some (.xd fs) ∧ fs.lookup f = some v ∧ Q v H :=
  ⟨rfl, rfl, dd, _, v, rfl, e, by simp [List.lookup], q⟩
theorem rd_isX {u : Value} {b : Bool} {c : V} {fs : List (Str × V)} (e : H dd = some (.xd fs)) (k : ClsV c u) (h : PySem.W.kitOne K (.ref D) u = some b) (q : Q (.bl b) H) : rIsX K D a (.ref D) (some dd) [.ref a, c] H Q := ⟨c, u, b, dd, fs, rfl, rfl, rfl, e, k, h, q⟩
theorem rd_cmethS (h : ta σ H fun x H1 => x = .ref C ∧ tt σ H1 fun vs H2 => sp (.ref C :: vs) H2 Q (E σ)) : tCMethS C sp E ta tt σ H Q := h
theorem rd_callS (h : tt σ H fun vs H1 => sp vs H1 Q (E σ)) : tCallS sp E tt σ H Q := h
end
end Hk

/-! try with several clauses «except C as n» -/
namespace Hk
open PySem PySem.Spec PyProof.Rows L2
abbrev ClauseT := Value × Nat × (Addr → Value → Option Addr → TS)
/-- behind a suite its name is gone -/
def gone (i : Nat) (D : Ends) : Ends := ⟨fun σ H => D.nx (σ.set i none) H, D.rt, fun σ H => D.bk (σ.set i none) H, fun σ H => D.ct (σ.set i none) H⟩
/-- what the clauses want, one by one -/
def wCl (K : PySem.W.Frag) (Wout : WX) (D : Ends) : List ClauseT → WX
  | [] => Wout
  | (c, i, ts) :: more => fun cls d σ H => ∃ yes : Bool, PySem.W.exmOne K cls c = some yes ∧ (yes = true → ∀ ex, H ex = none → ts ex cls d (gone i D) (σ.set i (some (.ref ex))) H) ∧ (yes = false → wCl K Wout D more cls d σ H)
inductive Clauses (X : Cx) : List ExceptHandler → List ClauseT → Prop
  | nil : Clauses X [] []
  | cons {x n : Str} {c : Value} {i : Nat} {ts : Addr → Value → Option Addr → TS} {st : Stmt} {sts : List Stmt} {np hp : Pos} {hds : List ExceptHandler} {cl : List ClauseT} (hi : X.N[i]? = some n) (hk : X.env.kindOf n = some .local) (hc : Names X x c)
      (hsu : ∀ (ex : Addr) (eo : Obj) (cls : Value) (d : Option Addr) (pn : List (Addr × Obj)), Zc cls d eo → (∃ fs, eo.data = .fields fs) → PSs (X.suite ex ((ex, eo) :: pn)) (st :: sts) (ts ex cls d)) (more : Clauses X hds cl) :
      Clauses X (.ExceptHandler (some (.Name x np)) (some n) (st :: sts) hp :: hds) ((c, i, ts) :: cl)
section
variable {X : Cx} {body : List Stmt} {hd : ExceptHandler} {hds : List ExceptHandler} {cl : List ClauseT} {pos : Pos} {tb : WX → TS} {Wout : WX}
theorem ps_tryC (e1 : X.stack = X.env :: X.outer) (e2 : X.env.frame = some X.env.locals) (nd : X.N.Nodup) (out : Takes X Wout)
    (bd : ∀ (W : WX) (pn : List (Addr × Obj)) (xe : Value → Shared → Prop), Takes (X.tr pn xe) W → PassesOwn (model X.prog X.w) X.A X.env xe → PSs (X.tr pn xe) body (tb W))
    (all : Clauses X (hd :: hds) cl) : PS X (.Try body (hd :: hds) [] [] pos) (fun D σ H => tb (wCl X.K Wout D cl) D σ H) := by
  refine ⟨fun pins s σ H D I want => ?_⟩
  have good := I.ok
  have fr : X.A.frames = some (X.env :: X.outer) := good.frames.trans (congrArg some e1)
  refine wpAny_Try_except (wpAny_mono ((bd (wCl X.K Wout D cl) (X.pn ++ pins)
    (fun u s1 => wpAny (model X.prog X.w) X.A (noteFrame u X.env)
      (fun _ s2 => wpAny (model X.prog X.w) X.A (setFlight u none)
        (fun _ s3 => wpAny (model X.prog X.w) X.A (handleBy u X.env (hd :: hds)) (SP X pins D) X.xe s3) X.xe s2) X.xe s1)
    (fun u s1 flown => ?_) PassesOwn.looking).run [] s σ H D (I.toTry _) want) (fun fl s1 ended => ?_) (fun _ _ z => z))
  · obtain ⟨ex, Bh, sB, pins1, σ1, H1, cls, d, rfl, JT, nB, upB, air, free, sameOs, sameG, wish⟩ := flown
    have J : Inv X pins σ1 H1 sB := JT.ofTry good
    have air1 : Sky Bh (X.env :: X.outer) ex (Zc cls d) X.env.locals s1.heap := e1 ▸ air
    refine Sky.land Zc.steady fr e2 air1 fun hL flL upL => ?_
    have JL : Inv X pins σ1 H1 { s1 with heap := hL } := J.landed nB flL.1 (upB.trans upL) sameOs sameG
    obtain ⟨eo, efs, atL, zL, dL⟩ := flL.there
    have out1 : ex ∉ frs (X.env :: X.outer) := fun inF => by
      obtain ⟨_, o1, at1, no1⟩ := flL.2.2.1.mem inF
      cases atL.symm.trans at1
      exact no1 _ dL
    have neL : ex ≠ X.env.locals := fun q => out1 (List.mem_filterMap.mpr ⟨X.env, List.mem_cons_self, e2.trans (congrArg some q.symm)⟩)
    have neF : ex ∉ X.fs := fun inF => by
      obtain ⟨en, inEn, q⟩ := List.mem_filterMap.mp inF
      exact out1 (List.mem_filterMap.mpr ⟨en, List.mem_cons_of_mem _ inEn, q⟩)
    have SL := JL.suite atL dL free neL neF
    have tyL : PySem.W.Looks (model X.prog X.w) hL (typeOf (.ref ex)) cls := fun A1 Q1 E1 s2 kp q => wpAny_typeOf_ref (kp _ _ atL) (by rw [zL.1]; exact q)
    have each : ∀ {hs1 : List ExceptHandler} {c1 : List ClauseT}, Clauses X hs1 c1 → wCl X.K Wout D c1 cls d σ1 H1 → wpAny (model X.prog X.w) X.A (handleBy (.ref ex) X.env hs1) (SP X pins D) X.xe { s1 with heap := hL } := by
      intro hs1 c1 ok1
      induction ok1 with
      | nil =>
        intro wish1
        have up1 : wpAny (model X.prog X.w) X.A (setFlight (.ref ex) X.env.frame) (fun _ s4 => wpAny (model X.prog X.w) X.A (throw (.ref ex) : Sem Flow) (SP X pins D) X.xe s4) X.xe { s1 with heap := hL } := by
          rw [e2]
          refine HandSPX.setFlight_upZ flL fun hU heldU upU => wpAny_throw (out _ _ ⟨ex, Bh, sB, pins, σ1, H1, cls, d, rfl, J, nB, (upB.trans upL).trans upU, .inr (.inr ?_), free, sameOs, sameG, wish1⟩)
          rw [e1]
          exact heldU
        obtain ⟨_, _, _, o1, fs1, T1, _, _, at1, _, d1, f1, _⟩ := id flL
        refine wpAny_handleBy_nil ?_
        unfold PySem.passOn
        refine wpAny_bind (wpAny_field at1 d1 f1 ?_)
        rw [if_neg (show ¬ ((Value.ref T1 == Value.none) = true) from by simp)]
        first | exact wpAny_bind (wpAny_pure (wpAny_bind up1)) | exact wpAny_bind up1
      | @cons x n c i ts st sts np hp hds2 cl2 hi hk hc hsu more ih =>
        intro wish1
        obtain ⟨yes, m1, ifY, ifN⟩ := wish1
        have name : ∀ {Q1 : Value → Shared → Prop} {E1 : Value → Shared → Prop}, Q1 c { s1 with heap := hL } → wpAny (model X.prog X.w) (X.A.mark (some (.ref ex))) (eval (.Name x np) X.env) Q1 E1 { s1 with heap := hL } := fun {Q1 E1} q => by
          rcases hc with ⟨gl, nod, gm | ⟨gm, gb, gn⟩⟩
          · exact ld_glob (X := X.suite ex ((ex, eo) :: (X.pn ++ pins))) SL gl gm q nod
          · exact ld_blt (X := X.suite ex ((ex, eo) :: (X.pn ++ pins))) SL gl gm gb q gn nod
        refine wpAny_handleBy_cons (codeAny_handlers_test (name ((PySem.W.exm_one (M := model X.prog X.w) JL.kIn tyL m1).here ?_))) (by intro q; cases q)
        cases yes with
        | false => exact ih (ifN rfl)
        | true =>
          refine codeAny_handlers_suite_as (HandSPX.lands_againZ flL fun hA flA upA => ?_)
          have JA : Inv X pins σ1 H1 { s1 with heap := hA } := J.landed nB flA.1 ((upB.trans upL).trans upA) sameOs sameG
          obtain ⟨eoA, fsA, atA, zA, dA⟩ := flA.there
          refine store_ok (X := X.suite ex ((ex, eoA) :: (X.pn ++ pins))) (v := .ref ex) (JA.suite atA dA free neL neF) nd hi (.inl hk) rfl (fun s5 S5 => ?_) (.inr hk)
          have last : ∀ {σ6 : L2.St} {H6 : Hp} {s6 : Shared} {Q6 : Shared → Prop}, Inv (X.suite ex ((ex, eoA) :: (X.pn ++ pins))) [] σ6 H6 s6 → (∀ s7, Inv X pins (σ6.set i none) H6 s7 → Q6 s7) →
              wpAny (model X.prog X.w) X.A (do bindName X.env n .none; unbindBehindTheSuite X.env n hp) (fun _ s7 => Q6 s7) X.xe s6 := fun S6 fin6 => gone_ok (S6.unsuite good) nd hi hk fin6
          refine wpAny_mono ((hsu ex eoA cls d (X.pn ++ pins) zA ⟨_, dA⟩).run [] s5 _ H1 _ S5 (ifY rfl ex free)) (fun fl s6 at6 => ?_) (fun _ _ z => False.elim z)
          cases fl with
          | ret u => exact let ⟨_, _, _, S6, r6, q6⟩ := at6; last S6 fun _ J7 => ⟨_, _, _, J7, r6, q6⟩
          | next => exact let ⟨_, _, S6, q6⟩ := at6; last S6 fun _ J7 => ⟨_, _, J7, q6⟩
          | brk => exact let ⟨_, _, S6, q6⟩ := at6; last S6 fun _ J7 => ⟨_, _, J7, q6⟩
          | cont => exact let ⟨_, _, S6, q6⟩ := at6; last S6 fun _ J7 => ⟨_, _, J7, q6⟩
    exact each all wish
  · cases fl with
    | ret u => exact let ⟨_, _, _, J1, r1, q1⟩ := ended; ⟨_, _, _, J1.ofTry good, r1, q1⟩
    | next => exact let ⟨_, _, J1, q1⟩ := ended; wpAny_execs_nil ⟨_, _, J1.ofTry good, q1⟩
    | brk => exact let ⟨_, _, J1, q1⟩ := ended; ⟨_, _, J1.ofTry good, q1⟩
    | cont => exact let ⟨_, _, J1, q1⟩ := ended; ⟨_, _, J1.ofTry good, q1⟩
end
section
variable {K : PySem.W.Frag} {σ : L2.St} {H : Hp} {cls c : Value} {d : Option Addr} {i : Nat} {ts : Addr → Value → Option Addr → TS} {Wout : WX} {De : Ends} {more : List ClauseT}
theorem rd_wY (e : PySem.W.exmOne K cls c = some true) (h : ∀ a, H a = none → ts a cls d ⟨fun σ' H' => De.nx (σ'.set i none) H', De.rt, fun σ' H' => De.bk (σ'.set i none) H', fun σ' H' => De.ct (σ'.set i none) H'⟩ (σ.set i (some (.ref a))) H) : wCl K Wout De ((c, i, ts) :: more) cls d σ H :=
  ⟨true, e, fun _ => h, fun q => Bool.noConfusion q⟩
theorem rd_wN (e : PySem.W.exmOne K cls c = some false) (h : wCl K Wout De more cls d σ H) : wCl K Wout De ((c, i, ts) :: more) cls d σ H :=
  ⟨false, e, fun q => Bool.noConfusion q, fun _ => h⟩
end
end Hk

/-! str(o) within an except suite, where __str__ raises nothing and loops over nothing; n * o in a try. -/
namespace Hk
open PySem PySem.Spec PyProof.Rows L2 L2H
structure FnQ (P : Program) (w : World) (K : PySem.W.Frag) (mg : Str → Option Value) (base : Heap) (k : Nat) (f : Addr) (fd : FuncData) (ps : List Str) (sp : Sp) : Prop where
  len : ∀ vs H Q E, sp vs H Q E → vs.length = ps.length
  run : ∀ (A : Around) (outer : List Env) (s : Shared) (H : Hp) (args : Args) (us : List Value) (vs : List V) (Q : VK) (E : XK) (p : Addr × Obj), RoomH k A → PinOk outer H s p → Env0 P w K mg base A outer s H → BindsTo s fd args (ps.zip us) → Vals vs us → sp vs H Q E →
    codeAny (model P w) A (.call (.ref f) args) (CR CX0 outer P w H s Q E) s
/-- such a def: its body needs no calm -/
theorem fnq_of {P : Program} {w : World} {K : PySem.W.Frag} {mg : Str → Option Value} {base : Heap} {x qual : Str} {st : Stmt} {f : Addr} {fd : FuncData} {N ps : List Str} {k : Nat} {sp : Sp} (F : Fun K x qual st f fd) (S : FnScope N ps (defScope st)) (len : ∀ vs H Q E, sp vs H Q E → vs.length = ps.length)
    (hbody : ∀ (cdv : Value) (A : Around) (outer : List Env) (s : Shared) (H : Hp) (vs : List V) (Q : VK) (E : XK) (p : Addr × Obj), sp vs H Q E →
      ∃ t, PSs (cxH CX0 P w K mg base N qual (defScope st) f cdv A outer s H E p) (defBody st) t ∧ t { nx := fun _ H' => Q .non H', rt := Q } (L2.start N vs) H) : FnQ P w K mg base (k + 1) f fd ps sp := by
  obtain ⟨oc, od, kV, doc, pm, an, cdv, ct, osl, rfl, lk, hcd⟩ := F.ex
  refine ⟨len, fun A outer s H args us vs Q E p hr hpin e0 hb r hsp => ?_⟩
  have hl := len _ _ _ _ hsp
  have KX : K.In s.heap := e0.mod.kin.keeps fun b o e => (e0.bs b o e).1
  have lim : s.heap.NoLimit := e0.mod.nolimit.keeps fun b o e => (e0.bs b o e).1
  have hkind : ∀ y ∈ ps.zip us, (defScope st).names.lookup y.1 = some .local ∨ ((defScope st).names.lookup y.1 = some .cell ∧ ((cellsFrom (s.heap.objs.size + 1) (defScope st).names []).lookup y.1).isSome = true) := fun y hy => by
    rcases S.par y.1 (List.of_mem_zip hy).1 with q | q
    · exact .inl q
    · exact .inr ⟨q, PySem.W.cellsFrom_some _ _ _ (.inl q)⟩
  refine codeAny_call_function hr.depth (KX _ _ lk) rfl S.co S.gen rfl (PySem.W.codeRec_of KX hcd) (hb _ _ _ _ ?_)
  refine wpAny_newFunctionEnv_cells S.kind hkind fun env he s1 z => ?_
  subst he
  refine ⟨lim.keeps z.toInCall.keep, codeAny_func ?_⟩
  obtain ⟨t, ht, hq⟩ := hbody cdv A outer s H vs Q E p hsp
  have I := inv_startH (CX := CX0) (E := E) S hpin e0 hl r z
  refine wpAny_mono (ht.run [] s1 (L2.start N vs) H _ I hq) (fun fl s' hs => ?_) fun e s' hs => hs
  cases fl with
  | ret u =>
    obtain ⟨v, σ', H', J, rv, q⟩ := hs
    exact ⟨v, H', J.os, J.bare, J.base, J.hok, rv, q⟩
  | next =>
    obtain ⟨σ', H', J, q⟩ := hs
    exact ⟨V.non, H', J.os, J.bare, J.base, J.hok, rfl, q⟩
  | brk =>
    obtain ⟨_, _, _, q⟩ := hs
    exact False.elim q
  | cont =>
    obtain ⟨_, _, _, q⟩ := hs
    exact False.elim q
section
variable {X : Cx} {n : Nat} {f C a : Addr} {fd : FuncData} {ps : List Str} {sp : Sp} {oe : Obj} {pn : List (Addr × Obj)}
/-- the class at C has such a def for this name -/
structure OwnQ (X : Cx) (C : Addr) (name : Str) (n : Nat) (sp : Sp) : Prop where
  ex : ∃ (f : Addr) (fd : FuncData) (ps : List Str), FnQ X.prog X.w X.K X.mg X.base n f fd ps sp ∧ PySem.W.findIn X.K (.ref C) name = some (some (.ref f)) ∧ PySem.W.isFn X.K (.ref f) = true ∧ Binds X.K fd ps []
theorem call_strQ {K : PySem.W.Frag} (G : OwnQ X C "__str__" n sp) (hr : Room (n + 2) X.A) (hK : X.K = K := by rfl) : CallR (X.suite a ((a, oe) :: pn)) (.type "str") (rStrO C sp E0) := by
  obtain ⟨f, fd, ps, F, hs, hf, hb⟩ := G.ex
  intro pins s σ H xs us Q I r h
  obtain ⟨o, dx, fs, rfl, ha, q⟩ := h
  cases r with
  | cons r1 r2 =>
    cases r2
    cases r1
    obtain ⟨mA, J, _⟩ := ins_get I.hok ha
    obtain ⟨od, J, _⟩ := J.look
    have hr2 : RoomH n (X.suite a ((a, oe) :: pn)).A.in1.in1 := ⟨hr.in1.in1.dp, hr.in1.in1.un⟩
    have hu : (X.suite a ((a, oe) :: pn)).A.in1.in1.units < cLine := by have := hr2.un; omega
    refine PySem.W.kso_call hu I.kIn J hs hf ?_
    have r3 : Vals [V.ref o] [Value.ref o] := .cons rfl .nil
    have hl : [Value.ref o].length = ps.length := by rw [← r3.length]; exact F.len _ _ _ _ q
    have b := hb s [Value.ref o] I.kIn (by rw [List.append_nil]; exact hl)
    rw [List.append_nil] at b
    have P1 := I.pin (a, oe) (List.mem_append_left _ List.mem_cons_self)
    have hpin : PinOk X.stack H s (a, oe) := ⟨P1.1, P1.2.1, fun hm => (List.mem_cons.mp (I.stkSub a hm)).elim P1.2.2.1 P1.2.2.2.1, P1.2.2.2.2⟩
    have e0 : Env0 X.prog X.w X.K X.mg X.base (X.suite a ((a, oe) :: pn)).A.in1.in1 X.stack s H := by
      have e := I.env0
      exact ⟨e.frames, e.mod, e.bs, e.bsz, e.funs, e.frf, e.hok, e.bare⟩
    refine wpAny_call (codeAny_mono (F.run _ X.stack s H ⟨[.ref o], []⟩ [.ref o] [V.ref o] _ E0 (a, oe) hr2 hpin e0 b r3 q) fun r s' hq => ?_)
    cases r with
    | error e => exact False.elim hq
    | ok fl =>
      cases fl with
      | ret u =>
        obtain ⟨v, H1, I1, rv, k, rfl, q1⟩ := I.after hq
        obtain ⟨t, rfl⟩ := rv
        exact ⟨.str k, H1, I1, ⟨_, rfl⟩, q1⟩
      | next => exact False.elim hq
      | brk => exact False.elim hq
      | cont => exact False.elim hq
end
section
variable {X : Cx} {n : Nat} {C g : Addr} {sp : Sp} {E : L2.St → XK} {a b : Expr} {ta tb : TE} {pos : Pos}
/-- o op n, n op o in a try -/
def tOpS (r : L2.St → R2) (ta tb : TE) : TE := fun σ H Q => ta σ H fun x H1 => tb σ H1 fun y H2 => r σ x y H2 Q
def OpRS (X : Cx) (f : Value → Value → Sem Value) (r : L2.St → R2) : Prop :=
  ∀ (pins : List (Addr × Obj)) (s : Shared) (σ : L2.St) (H : Hp) (x y : V) (v u : Value) (Q : VK), Inv X pins σ H s → RelV x v → RelV y u → r σ x y H Q → wpAny (model X.prog X.w) X.A (f v u) (EP X pins σ Q) X.xe s
theorem pe_opS {op : Operator} {r : L2.St → R2} (ho : OpRS X (binaryOp op) r) (ha : PE X a ta) (hb : PE X b tb) : PE X (.BinOp a op b pos) (tOpS r ta tb) := by
  refine ⟨fun pins s σ H Q I h => ?_⟩
  exact wpAny_BinOp (binT ha hb I h fun v u s2 x y H2 I2 rx ry q => ho pins s2 σ H2 x y v u Q I2 rx ry q)
theorem rd_opS {r : L2.St → R2} {σ : L2.St} {H : Hp} {Q : VK} (h : ta σ H fun x H1 => tb σ H1 fun y H2 => r σ x y H2 Q) : tOpS r ta tb σ H Q := h
def tIfT (tc ta tb : TT) : TT := fun σ H Q => tc σ H fun b H1 => if b = true then ta σ H1 Q else tb σ H1 Q
theorem pt_ifExp {c : Expr} {tc t1 t2 : TT} (hc : PT X c tc) (ha : PT X a t1) (hb : PT X b t2) : PT X (.IfExp c a b pos) (tIfT tc t1 t2) := by
  refine ⟨fun pins s σ H Q I h => ?_⟩
  rw [arm_isTrue_IfExp]
  refine wpAny_bind (thn (hc.run pins s σ H _ I h) fun d s1 ⟨H1, I1, q1⟩ => ?_)
  cases d with
  | false => exact hb.run pins s1 σ H1 Q I1 (by simpa using q1)
  | true => exact ha.run pins s1 σ H1 Q I1 (by simpa using q1)
theorem rd_ifT {tc t1 t2 : TT} {σ : L2.St} {H : Hp} {Q : Bool → Hp → Prop} (h : tc σ H fun b H1 => if b = true then t1 σ H1 Q else t2 σ H1 Q) : tIfT tc t1 t2 σ H Q := h
structure OwnS (X : Cx) (C : Addr) (name : Str) (n : Nat) (sp : Sp) (E : L2.St → XK) : Prop where
  ex : ∃ (f : Addr) (fd : FuncData) (ps : List Str) (CX : CXT), FnOk X.prog X.w X.K X.mg X.base CX n f fd ps sp ∧ PySem.W.findIn X.K (.ref C) name = some (some (.ref f)) ∧ PySem.W.isFn X.K (.ref f) = true ∧ Binds X.K fd ps [] ∧ ∀ σ, PassesAt CX X σ (E σ)
theorem op_rmulS (G : OwnS X C (dunderR "mul") n sp E) (hs' : PySem.W.findIn X.K (.ref C) (dunder "mul") = some (some (.ref g))) (hc : PySem.W.selfFirst X.K C = true) (hsub : PySem.W.subIn X.K (.ref C) (.type "int") = some false) (hr : Room n X.A) : OpRS X (binaryOp .Mult) (fun σ => rRMul C sp (E σ)) := by
  obtain ⟨f, fd, ps, CX, F, hs, hf, hb, hx⟩ := G.ex
  intro pins s σ H x y v u Q I rx ry h
  obtain ⟨i, a, dx, fs, rfl, rfl, ha, q⟩ := h
  obtain ⟨t, rfl⟩ := (show ∃ t, v = Value.int i t from rx)
  cases ry
  obtain ⟨mA, J, _⟩ := ins_get I.hok ha
  obtain ⟨od, J, _⟩ := J.look
  obtain ⟨m, hF⟩ := I.fr
  refine mulR_K hF I.ok.mod.kin J hc hs' hs hf hsub ?_
  have r3 : Vals [V.ref a, V.int i] [Value.ref a, Value.int i t] := .cons rfl (.cons ⟨t, rfl⟩ .nil)
  have hl : [Value.ref a, Value.int i t].length = ps.length := by rw [← r3.length]; exact F.len _ _ _ _ q
  have b := hb s [Value.ref a, Value.int i t] I.kIn (by rw [List.append_nil]; exact hl)
  rw [List.append_nil] at b
  refine wpAny_call (codeAny_mono (F.run X.A X.stack s H ⟨_, []⟩ _ [V.ref a, V.int i] _ (E σ) hr I.env0 b r3 q) fun r s' hq => ?_)
  cases r with
  | error e => exact hx σ pins H s e s' I hq
  | ok fl =>
    cases fl with
    | ret u =>
      obtain ⟨z, H1, I1, rv, p, rfl, q1⟩ := I.after hq
      cases rv
      exact ⟨.ref p, H1, I1, rfl, q1⟩
    | next => exact False.elim hq
    | brk => exact False.elim hq
    | cont => exact False.elim hq
end
end Hk

/-! Expressions, plainly: rows, trees, texts, and the reader's machine. -/
namespace Ex
open PySem L2 Hk

inductive Row where
  | leaf (l n : List Nat) | asked (wd n : List Nat) | done (s : List Nat) (k : Nat)
  deriving DecidableEq
def Row.vals : Row → List V
  | .leaf l n => [.str "leaf", .str (tx l), .str (tx n)]
  | .asked wd n => [.str "asked", .str (tx wd), .str (tx n)]
  | .done s k => [.str "done", .str (tx s), .int k]
def Row.dat : Row → PyData
  | .leaf l n => .tuple [.str "leaf", .str (tx l), .str (tx n)]
  | .asked wd n => .tuple [.str "asked", .str (tx wd), .str (tx n)]
  | .done s k => .tuple [.str "done", .str (tx s), .int k]
def Row.step : Row → Bool
  | .leaf _ _ => false
  | _ => true
def Row.sign : Row → List Nat
  | .leaf l _ => l
  | .asked wd _ => wd
  | .done s _ => s
theorem Row.inv {K : PySem.W.Frag} {F : Hp} {r : Row} {v : V} (h : Dp K F v r.dat) : ∃ q, v = .ref q ∧ SqT K F q r.vals := by
  cases r <;> exact Dp.tup_flat h
theorem Row.mk {K : PySem.W.Frag} {F : Hp} {r : Row} {q : Addr} (h : SqT K F q r.vals) : Dp K F (.ref q) r.dat := by
  cases r <;> exact .tup h (flAll_mk rfl)
def nSteps (rows : List Row) : Nat := (rows.filter Row.step).length
def signsOf (rows : List Row) : List (List Nat) := (rows.filter Row.step).map Row.sign
/-- leaves, each once -/
def leavesAdd (found : List (List Nat × List Nat)) : Row → List (List Nat × List Nat)
  | .leaf l n => if (l, n) ∈ found then found else found ++ [(l, n)]
  | _ => found
def leavesOf (rows : List Row) : List (List Nat × List Nat) := rows.foldl leavesAdd []
theorem nSteps_app (a b : List Row) : nSteps (a ++ b) = nSteps a + nSteps b := by simp [nSteps]
theorem signsOf_app (a b : List Row) : signsOf (a ++ b) = signsOf a ++ signsOf b := by simp [signsOf]
theorem signs_len (rows : List Row) : (signsOf rows).length = nSteps rows := by simp [signsOf, nSteps]
theorem nSteps_le (rows : List Row) : nSteps rows ≤ rows.length := List.length_filter_le _ _

inductive Tree where
  | leaf (l n : List Nat) | asked (wd n : List Nat) | un (s : List Nat) (t : Tree) | bin (s : List Nat) (a b : Tree)
def Tree.rows : Tree → List Row
  | .leaf l n => [.leaf l n]
  | .asked wd n => [.asked wd n]
  | .un s t => t.rows ++ [.done s 1]
  | .bin s a b => a.rows ++ b.rows ++ [.done s 2]
def Tree.text : Tree → List Nat
  | .leaf l n => l ++ 58 :: n
  | .asked wd n => n ++ 46 :: wd
  | .un s t => s ++ 40 :: (t.text ++ [41])
  | .bin s a b => 40 :: (a.text ++ 32 :: (s ++ 32 :: (b.text ++ [41])))
def Tree.deep : Tree → Nat
  | .leaf _ _ => 0
  | .asked _ _ => 0
  | .un _ t => t.deep + 1
  | .bin _ a b => max a.deep b.deep + 1
def unaries : List (List Nat) := [[110, 101, 103], [112, 111, 115], [97, 98, 115], [105, 110, 118, 101, 114, 116]]
def binaries : List (List Nat) := [[43], [45], [42], [47, 47], [38], [124], [94], [60, 60], [62, 62]]
/-- a label, a request -/
structure IsWord (w : List Nat) : Prop where
  ne : w ≠ []
  le : w.length ≤ 8
  sm : ∀ c ∈ w, c ∈ smalls
structure IsClass (n : List Nat) : Prop where
  ex : ∃ c r, n = c :: r ∧ c ∈ capitals ∧ r.length ≤ 7 ∧ ∀ x ∈ r, x ∈ smalls
def Tree.ok : Tree → Prop
  | .leaf l n => IsWord l ∧ IsClass n
  | .asked w n => IsWord w ∧ w ∉ unaries ∧ IsClass n
  | .un s t => s ∈ unaries ∧ t.ok
  | .bin s a b => s ∈ binaries ∧ a.ok ∧ b.ok
theorem nSteps_done (s : List Nat) (k : Nat) : nSteps [.done s k] = 1 := rfl
theorem Tree.deep_le : ∀ t : Tree, t.deep ≤ nSteps t.rows
  | .leaf _ _ => by simp [Tree.deep]
  | .asked _ _ => by simp [Tree.deep]
  | .un s t => by
    have := t.deep_le
    simp only [Tree.deep, Tree.rows, nSteps_app, nSteps_done]
    omega
  | .bin s a b => by
    have h1 := a.deep_le
    have h2 := b.deep_le
    simp only [Tree.deep, Tree.rows, nSteps_app, nSteps_done]
    omega
theorem IsClass.len {n : List Nat} (h : IsClass n) : n.length ≤ 8 := by
  obtain ⟨c, r, rfl, _, h, _⟩ := h.ex
  simp; omega
theorem un_len : ∀ s ∈ unaries, s.length ≤ 6 := by decide
theorem bin_len : ∀ s ∈ binaries, s.length ≤ 2 := by decide
theorem Tree.text_len : ∀ t : Tree, t.ok → t.text.length ≤ 17 * t.rows.length
  | .leaf l n, h => by
    have h1 := h.1.le
    have h2 := h.2.len
    simp [Tree.text, Tree.rows]; omega
  | .asked w n, h => by
    have h1 := h.1.le
    have h2 := h.2.2.len
    simp [Tree.text, Tree.rows]; omega
  | .un s t, h => by
    have h1 := un_len s h.1
    have h2 := t.text_len h.2
    simp [Tree.text, Tree.rows]; omega
  | .bin s a b, h => by
    have h1 := bin_len s h.1
    have h2 := a.text_len h.2.1
    have h3 := b.text_len h.2.2
    simp [Tree.text, Tree.rows]; omega
theorem Tree.rows_ne (t : Tree) : t.rows ≠ [] := by cases t <;> simp [Tree.rows]
theorem Tree.rows_pos (t : Tree) : 0 < t.rows.length := List.length_pos_iff.mpr t.rows_ne

/-! ### the reader's machine -/
structure RS where
  i : Nat
  rest : List Nat
  ns : List (List Nat × Nat)
  rows : List Row
def word : Nat → List Nat → List Nat
  | 0, _ => []
  | _ + 1, [] => []
  | n + 1, c :: r => if c ∈ smalls then c :: word n r else []
def RS.go (st : RS) (n : Nat) : RS := { st with i := st.i + n, rest := st.rest.drop n }
def mSkip (l : List Nat) (st : RS) : Except Nat RS := match st.rest with
  | c :: _ => if c ∈ l then .ok (st.go 1) else .error st.i
  | [] => .error st.i
def mLetters (n : Nat) (st : RS) : List Nat × RS := (word n st.rest, st.go (word n st.rest).length)
def mClass (st : RS) : Except Nat (List Nat × RS) := match mSkip capitals st with
  | .error i => .error i
  | .ok st1 => .ok (st.rest.take (1 + (word 7 st1.rest).length), (mLetters 7 st1).2)
def mRequest (st : RS) : Except Nat RS := match mClass st with
  | .error i => .error i
  | .ok (n, st1) => match mSkip [46] st1 with
    | .error i => .error i
    | .ok st2 => if (mLetters 8 st2).1 = [] ∨ (mLetters 8 st2).1 ∈ unaries then .error (mLetters 8 st2).2.i else .ok { (mLetters 8 st2).2 with rows := st2.rows ++ [.asked (mLetters 8 st2).1 n] }
def mGoIn (s : List Nat) (k : Nat) (st : RS) : Except Nat RS := if st.ns.length ≥ 100 then .error st.i else .ok { st.go 1 with ns := st.ns ++ [(s, k)] }
def mLeaf (w : List Nat) (st : RS) : Except Nat RS := match mSkip [58] st with
  | .error i => .error i
  | .ok st1 => match mClass st1 with
    | .error i => .error i
    | .ok (n, st2) => .ok { st2 with rows := st2.rows ++ [.leaf w n] }
def mTrue (x : Except Nat RS) : Except Nat (Bool × RS) := match x with
  | .error i => .error i
  | .ok s => .ok (true, s)
def mFalse (x : Except Nat RS) : Except Nat (Bool × RS) := match x with
  | .error i => .error i
  | .ok s => .ok (false, s)
def mOpen (st : RS) : Except Nat (Bool × RS) := match st.rest with
  | [] => .error st.i
  | c :: _ => if c = 40 then mTrue (mGoIn [] 2 st) else if c ∈ capitals then mFalse (mRequest st) else
    if (mLetters 8 st).1 = [] then .error st.i else
    if (mLetters 8 st).1 ∈ unaries then match (mLetters 8 st).2.rest with
      | [] => .error (mLetters 8 st).2.i
      | c' :: _ => if c' = 40 then mTrue (mGoIn (mLetters 8 st).1 1 (mLetters 8 st).2) else mFalse (mLeaf (mLetters 8 st).1 (mLetters 8 st).2)
    else mFalse (mLeaf (mLetters 8 st).1 (mLetters 8 st).2)
def firsts : List Nat := [43, 45, 42, 47, 38, 124, 94, 60, 62]
def twos : List Nat := [47, 60, 62]
/-- the sign between two operands: its codes -/
def mSign (st : RS) : Except Nat (List Nat × RS) := match mSkip [32] st with
  | .error i => .error i
  | .ok st1 => match st1.rest with
    | [] => .error st1.i
    | c :: _ => match mSkip firsts st1 with
      | .error i => .error i
      | .ok st2 => if c ∈ twos then match mSkip [c] st2 with
          | .error i => .error i
          | .ok st3 => match mSkip [32] st3 with
            | .error i => .error i
            | .ok st4 => .ok ([c, c], st4)
        else match mSkip [32] st2 with
          | .error i => .error i
          | .ok st4 => .ok ([c], st4)
inductive Big : Bool → RS → Except Nat (List Row) → Prop
  | openBad {st i} : mOpen st = .error i → Big true st (.error i)
  | openMore {st st' r} : mOpen st = .ok (true, st') → Big true st' r → Big true st r
  | openStop {st st' r} : mOpen st = .ok (false, st') → Big false st' r → Big true st r
  | closeBad {st ns s k i} : st.ns = ns ++ [(s, k)] → s ≠ [] → mSkip [41] st = .error i → Big false st (.error i)
  | closeMore {st ns s k st1 r} : st.ns = ns ++ [(s, k)] → s ≠ [] → mSkip [41] st = .ok st1 → Big false { st1 with ns := ns, rows := st1.rows ++ [.done s k] } r → Big false st r
  | fin {st} : st.ns = [] → st.rest = [] → Big false st (.ok st.rows)
  | finBad {st} : st.ns = [] → st.rest ≠ [] → Big false st (.error st.i)
  | signBad {st ns k i} : st.ns = ns ++ [([], k)] → mSign st = .error i → Big false st (.error i)
  | sign {st ns k s st' r} : st.ns = ns ++ [([], k)] → mSign st = .ok (s, st') → Big true { st' with ns := ns ++ [(s, 2)] } r → Big false st r
def start (t : List Nat) : RS := ⟨0, t, [], []⟩

/-! ### right texts -/
theorem word_app {n : Nat} {w s : List Nat} (h : ∀ c ∈ w, c ∈ smalls) (hl : w.length ≤ n) (hs : w.length = n ∨ ∀ c r, s = c :: r → c ∉ smalls) : word n (w ++ s) = w := by
  induction w generalizing n with
  | nil =>
    cases n with
    | zero => rfl
    | succ n =>
      rcases hs with hs | hs
      · simp at hs
      · cases s with
        | nil => rfl
        | cons c r => simp [word, hs c r rfl]
  | cons c w ih =>
    cases n with
    | zero => simp at hl
    | succ n =>
      have h1 : c ∈ smalls := h c (by simp)
      simp only [List.cons_append, word, if_pos h1]
      rw [ih (fun x hx => h x (by simp [hx])) (by simpa using hl) (by rcases hs with hs | hs; exact .inl (by simpa using hs); exact .inr hs)]
/-- what may follow an expression -/
def Next (s : List Nat) : Prop := ∀ c r, s = c :: r → c ∉ smalls
theorem cap_small : ∀ c ∈ capitals, c ∉ smalls := by decide
theorem mSkip_ok {l : List Nat} {st : RS} {c : Nat} {r : List Nat} (h : st.rest = c :: r) (hc : c ∈ l) : mSkip l st = .ok { st with i := st.i + 1, rest := r } := by
  unfold mSkip RS.go
  rw [h]
  simp [hc]
theorem mClass_ok {st : RS} {n s : List Nat} (h : st.rest = n ++ s) (hn : IsClass n) (hs : Next s) : mClass st = .ok (n, { st with i := st.i + n.length, rest := s }) := by
  obtain ⟨c, r, rfl, hc, hr, hsm⟩ := hn.ex
  have e : mSkip capitals st = .ok { st with i := st.i + 1, rest := r ++ s } := mSkip_ok (by simpa using h) hc
  have ew : word 7 (r ++ s) = r := word_app hsm hr (.inr hs)
  unfold mClass
  rw [e]
  simp only [mLetters, RS.go, ew, h]
  have e1 : ((c :: r) ++ s).take (1 + r.length) = c :: r := by
    rw [show 1 + r.length = (c :: r).length by simp; omega, List.take_left]
  have e2 : (r ++ s).drop r.length = s := List.drop_left
  have e3 : st.i + 1 + r.length = st.i + (c :: r).length := by simp; omega
  rw [e1, e2, e3]
theorem Row.eqi {st : RS} {i : Nat} {r : List Nat} {x : List Row} (h1 : st.i = i) : ({ st with i := st.i, rest := r, rows := x } : RS) = { st with i := i, rest := r, rows := x } := by rw [h1]
theorem mLeaf_ok {st : RS} {w n s : List Nat} (h : st.rest = 58 :: (n ++ s)) (hn : IsClass n) (hs : Next s) : mLeaf w st = .ok { st with i := st.i + 1 + n.length, rest := s, rows := st.rows ++ [.leaf w n] } := by
  unfold mLeaf
  rw [mSkip_ok h (by simp)]
  simp only
  rw [mClass_ok (n := n) (s := s) rfl hn hs]
theorem unary_not : ∀ s ∈ unaries, s ≠ [] ∧ s.length ≤ 6 ∧ (∀ c ∈ s, c ∈ smalls) := by decide
theorem head_small : ∀ c ∈ smalls, c ≠ 40 ∧ c ∉ capitals := by decide
theorem cap_not40 : ∀ c ∈ capitals, c ≠ 40 := by decide
theorem mOpen_leaf {st : RS} {l n s : List Nat} (h : st.rest = l ++ 58 :: (n ++ s)) (hl : IsWord l) (hn : IsClass n) (hs : Next s) :
    mOpen st = .ok (false, { st with i := st.i + (l ++ 58 :: n).length, rest := s, rows := st.rows ++ [.leaf l n] }) := by
  obtain ⟨c, r, rfl⟩ := List.exists_cons_of_ne_nil hl.ne
  have hc := hl.sm c (by simp)
  have hc2 := head_small c hc
  have ew : word 8 st.rest = c :: r := by
    rw [h]
    exact word_app hl.sm hl.le (.inr (by intro x y e; cases e; decide))
  have e1 : (mLetters 8 st).1 = c :: r := ew
  have e2 : (mLetters 8 st).2 = { st with i := st.i + (c :: r).length, rest := 58 :: (n ++ s) } := by
    unfold mLetters RS.go
    rw [ew, h]
    simp
  have e3 : mLeaf (c :: r) (mLetters 8 st).2 = .ok { st with i := st.i + ((c :: r) ++ 58 :: n).length, rest := s, rows := st.rows ++ [.leaf (c :: r) n] } := by
    rw [e2, mLeaf_ok (n := n) (s := s) rfl hn hs]
    simp
    omega
  unfold mOpen
  rw [show st.rest = c :: (r ++ 58 :: (n ++ s)) by rw [h]; rfl]
  simp only [if_neg hc2.1, if_neg hc2.2, e1, if_neg (List.cons_ne_nil c r)]
  have e4 : (mLetters 8 st).2.rest = 58 :: (n ++ s) := by rw [e2]
  split
  · rw [e4]
    simp only [show ¬ (58 : Nat) = 40 by decide, if_false]
    rw [e3]
    rfl
  · rw [e3]
    rfl
theorem mOpen_asked {st : RS} {w n s : List Nat} (h : st.rest = n ++ 46 :: (w ++ s)) (hw : IsWord w) (hu : w ∉ unaries) (hn : IsClass n) (hs : Next s) :
    mOpen st = .ok (false, { st with i := st.i + (n ++ 46 :: w).length, rest := s, rows := st.rows ++ [.asked w n] }) := by
  have e1 := mClass_ok (n := n) (s := 46 :: (w ++ s)) h hn (by intro x y e; cases e; decide)
  obtain ⟨c, r, rfl, hc, hr, hsm⟩ := hn.ex
  have ew : word 8 (w ++ s) = w := word_app hw.sm hw.le (.inr hs)
  have e2 : mRequest st = .ok { st with i := st.i + ((c :: r) ++ 46 :: w).length, rest := s, rows := st.rows ++ [.asked w (c :: r)] } := by
    unfold mRequest
    rw [e1]
    simp only
    rw [mSkip_ok (l := [46]) (c := 46) (r := w ++ s) rfl (by simp)]
    simp only [mLetters, ew, RS.go]
    rw [if_neg (by rintro (z | z); exact hw.ne z; exact hu z)]
    simp
    omega
  unfold mOpen
  rw [show st.rest = c :: (r ++ 46 :: (w ++ s)) by rw [h]; rfl]
  simp only [if_neg (cap_not40 c hc), if_pos hc]
  rw [e2]
  rfl
theorem mOpen_un {st : RS} {u s : List Nat} (h : st.rest = u ++ 40 :: s) (hu : u ∈ unaries) (hn : st.ns.length < 100) :
    mOpen st = .ok (true, { st with i := st.i + u.length + 1, rest := s, ns := st.ns ++ [(u, 1)] }) := by
  obtain ⟨h1, h2, h3⟩ := unary_not u hu
  obtain ⟨c, r, rfl⟩ := List.exists_cons_of_ne_nil h1
  have hc2 := head_small c (h3 c (by simp))
  have ew : word 8 st.rest = c :: r := by
    rw [h]
    exact word_app h3 (by omega) (.inr (by intro x y e; cases e; decide))
  have e1 : (mLetters 8 st).1 = c :: r := ew
  have e2 : (mLetters 8 st).2 = { st with i := st.i + (c :: r).length, rest := 40 :: s } := by
    unfold mLetters RS.go
    rw [ew, h]
    simp
  unfold mOpen
  rw [show st.rest = c :: (r ++ 40 :: s) by rw [h]; rfl]
  simp only [if_neg hc2.1, if_neg hc2.2, e1, if_neg (List.cons_ne_nil c r), if_pos hu]
  rw [e2]
  simp only [if_true]
  unfold mGoIn mTrue RS.go
  rw [if_neg (show ¬ st.ns.length ≥ 100 by omega)]
  simp
theorem mOpen_bin {st : RS} {s : List Nat} (h : st.rest = 40 :: s) (hn : st.ns.length < 100) :
    mOpen st = .ok (true, { st with i := st.i + 1, rest := s, ns := st.ns ++ [([], 2)] }) := by
  unfold mOpen
  rw [h]
  simp only [if_true]
  unfold mGoIn mTrue RS.go
  rw [if_neg (by omega), h]
  simp
theorem mSign_ok {st : RS} {b s : List Nat} (h : st.rest = 32 :: (b ++ 32 :: s)) (hb : b ∈ binaries) : mSign st = .ok (b, { st with i := st.i + b.length + 2, rest := s }) := by
  unfold binaries at hb
  unfold mSign
  rw [mSkip_ok h (by simp)]
  simp only [List.mem_cons, List.not_mem_nil, or_false] at hb
  rcases hb with rfl | rfl | rfl | rfl | rfl | rfl | rfl | rfl | rfl <;>
    simp [mSkip, RS.go, firsts, twos]
theorem big_tree : ∀ (t : Tree), t.ok → ∀ (st : RS) (s : List Nat) (r : Except Nat (List Row)), st.rest = t.text ++ s → Next s → st.ns.length + t.deep ≤ 100 →
    Big false { st with i := st.i + t.text.length, rest := s, rows := st.rows ++ t.rows } r → Big true st r
  | .leaf l n, h, st, s, r, e, hs, _, k => Big.openStop (mOpen_leaf (by simpa [Tree.text] using e) h.1 h.2 hs) k
  | .asked w n, h, st, s, r, e, hs, _, k => Big.openStop (mOpen_asked (by simpa [Tree.text] using e) h.1 h.2.1 h.2.2 hs) k
  | .un u t, h, st, s, r, e, hs, hd, k => by
    have hd' : st.ns.length + (t.deep + 1) ≤ 100 := hd
    refine Big.openMore (mOpen_un (u := u) (s := t.text ++ 41 :: s) (by rw [e]; simp [Tree.text]) h.1 (by omega)) ?_
    refine big_tree t h.2 _ (41 :: s) r rfl (by intro x y e; cases e; decide) (by simp; omega) ?_
    refine Big.closeMore (ns := st.ns) (s := u) (k := 1) rfl (unary_not u h.1).1 (mSkip_ok (c := 41) (r := s) rfl (by simp)) ?_
    have e2 : st.i + (Tree.un u t).text.length = st.i + u.length + 1 + t.text.length + 1 := by simp [Tree.text]; omega
    have e3 : st.rows ++ (Tree.un u t).rows = st.rows ++ t.rows ++ [.done u 1] := by simp [Tree.rows]
    rw [e2, e3] at k
    exact k
  | .bin b x y, h, st, s, r, e, hs, hd, k => by
    have hd' : st.ns.length + (max x.deep y.deep + 1) ≤ 100 := hd
    refine Big.openMore (mOpen_bin (s := x.text ++ 32 :: (b ++ 32 :: (y.text ++ 41 :: s))) (by rw [e]; simp [Tree.text]) (by omega)) ?_
    refine big_tree x h.2.1 _ (32 :: (b ++ 32 :: (y.text ++ 41 :: s))) r rfl (by intro x y e; cases e; decide) (by simp; omega) ?_
    refine Big.sign (ns := st.ns) (k := 2) rfl (mSign_ok (b := b) (s := y.text ++ 41 :: s) rfl h.1) ?_
    refine big_tree y h.2.2 _ (41 :: s) r rfl (by intro x y e; cases e; decide) (by simp; omega) ?_
    have hb : b ≠ [] := by
      have : ∀ b ∈ binaries, b ≠ [] := by decide
      exact this b h.1
    refine Big.closeMore (ns := st.ns) (s := b) (k := 2) rfl hb (mSkip_ok (c := 41) (r := s) rfl (by simp)) ?_
    have e2 : st.i + (Tree.bin b x y).text.length = st.i + 1 + x.text.length + b.length + 2 + y.text.length + 1 := by simp [Tree.text]; omega
    have e3 : st.rows ++ (Tree.bin b x y).rows = st.rows ++ x.rows ++ y.rows ++ [.done b 2] := by simp [Tree.rows]
    rw [e2, e3] at k
    exact k
/-- a right text is read -/
theorem big_read (t : Tree) (h : t.ok) (hd : t.deep ≤ 100) : Big true (start t.text) (.ok t.rows) := by
  refine big_tree t h _ [] _ (by simp [start]) (by intro c r e; cases e) (by simpa [start] using hd) ?_
  have k := Big.fin (st := { start t.text with i := (start t.text).i + t.text.length, rest := [], rows := (start t.text).rows ++ t.rows }) rfl rfl
  simpa [start] using k
end Ex

namespace Ex
open PySem L2 Hk
/-! ### data that can be compared -/
theorem lay_all : ∀ {ds : List PyData}, (∀ d ∈ ds, PyData.canLay0 d = true) → PyData.canLayAll0 ds = true
  | [], _ => by simp [PyData.canLayAll0]
  | d :: ds, h => by simp [PyData.canLayAll0, h d (by simp), lay_all (ds := ds) fun e he => h e (by simp [he])]
theorem depth_all {n : Nat} : ∀ {ds : List PyData}, (∀ d ∈ ds, PyData.depth d ≤ n) → PyData.depthAll ds ≤ n
  | [], _ => by simp [PyData.depthAll]
  | d :: ds, h => by
    have h1 := h d (by simp)
    have h2 := depth_all (n := n) (ds := ds) fun e he => h e (by simp [he])
    simp only [PyData.depthAll]
    omega
theorem shaped_list {ds : List PyData} (n : Nat) (h1 : ∀ d ∈ ds, PyData.canLay0 d = true) (h2 : ∀ d ∈ ds, PyData.depth d ≤ n) (hn : n ≤ 60) : SeqAt.shaped (.list ds) = true := by
  have h3 := depth_all h2
  show (PyData.canLay0 (.list ds) && decide (PyData.depth (.list ds) ≤ 64)) = true
  rw [Bool.and_eq_true]
  exact ⟨by simp only [PyData.canLay0]; exact lay_all h1, decide_eq_true (by simp only [PyData.depth]; omega)⟩
def strD (l : List Nat) : PyData := .str (tx l)
theorem strD_lay {l : List Nat} (h : okT l) : PyData.canLay0 (strD l) = true := by simp [strD, PyData.canLay0, okT_str h]
theorem strD_depth (l : List Nat) : PyData.depth (strD l) = 0 := by simp [strD, PyData.depth]
theorem strDs_shaped {ls : List (List Nat)} (h : ∀ l ∈ ls, okT l) : SeqAt.shaped (.list (ls.map strD)) = true := by
  refine shaped_list 0 (fun d hd => ?_) (fun d hd => ?_) (by omega)
  · obtain ⟨l, hl, rfl⟩ := List.mem_map.mp hd
    exact strD_lay (h l hl)
  · obtain ⟨l, hl, rfl⟩ := List.mem_map.mp hd
    rw [strD_depth]
    omega
def pairD (p : List Nat × List Nat) : PyData := .tuple [.str (tx p.1), .str (tx p.2)]
def okP (p : List Nat × List Nat) : Prop := okT p.1 ∧ okT p.2
theorem pairD_lay {p : List Nat × List Nat} (h : okP p) : (pairD p).canLay0 = true := by simp [pairD, PyData.canLay0, PyData.canLayAll0, okT_str h.1, okT_str h.2]
theorem pairD_depth (p : List Nat × List Nat) : (pairD p).depth = 1 := by simp [pairD, PyData.depth, PyData.depthAll]
theorem pairD_shaped {p : List Nat × List Nat} (h : okP p) : SeqAt.shaped (pairD p) = true := by
  have e := pairD_depth p
  show ((pairD p).canLay0 && decide ((pairD p).depth ≤ 64)) = true
  rw [Bool.and_eq_true]
  exact ⟨pairD_lay h, decide_eq_true (by omega)⟩
theorem pairDs_shaped {ps : List (List Nat × List Nat)} (h : ∀ p ∈ ps, okP p) : SeqAt.shaped (.list (ps.map pairD)) = true := by
  refine shaped_list 1 (fun d hd => ?_) (fun d hd => ?_) (by omega)
  · obtain ⟨l, hl, rfl⟩ := List.mem_map.mp hd
    exact pairD_lay (h l hl)
  · obtain ⟨l, hl, rfl⟩ := List.mem_map.mp hd
    rw [pairD_depth]
    omega
theorem pairD_eqv (p q : List Nat × List Nat) : PyData.eqv (pairD p) (pairD q) = decide (p = q) := by
  obtain ⟨a, b⟩ := p
  obtain ⟨c, d⟩ := q
  have e : PyData.eqv (pairD (a, b)) (pairD (c, d)) = ((tx a == tx c) && ((tx b == tx d) && true)) := by simp only [pairD, PyData.eqv, PyData.eqvAll]
  rw [e]
  by_cases h1 : a = c
  · by_cases h2 : b = d
    · subst h1 h2
      simp
    · have : ¬ tx b = tx d := fun z => h2 (tx_inj.mp z)
      simp [this, h2]
  · have : ¬ tx a = tx c := fun z => h1 (tx_inj.mp z)
    simp [this, h1]
theorem any_pair {ps : List (List Nat × List Nat)} {p : List Nat × List Nat} : ((ps.map pairD).any fun z => PyData.eqv z (pairD p)) = decide (p ∈ ps) := by
  induction ps with
  | nil => simp
  | cons q ps ih =>
    rw [List.map_cons, List.any_cons, ih, pairD_eqv]
    by_cases h1 : q = p
    · subst h1
      simp
    · have h2 : ¬ p = q := fun z => h1 z.symm
      simp [h1, h2]
def Row.ok : Row → Prop
  | .leaf l n => okT l ∧ okT n
  | .asked wd n => okT wd ∧ okT n
  | .done s _ => okT s
theorem Row.ok_sign {r : Row} (h : r.ok) : okT r.sign := by
  cases r with
  | leaf l n => exact h.1
  | asked l n => exact h.1
  | done s k => exact h
theorem signs_ok {rows : List Row} (h : ∀ r ∈ rows, r.ok) : ∀ l ∈ signsOf rows, okT l := by
  intro l hl
  obtain ⟨r, hr, rfl⟩ := List.mem_map.mp hl
  exact Row.ok_sign (h r (List.mem_filter.mp hr).1)
theorem leaves_succ {rows : List Row} {i : Nat} {r : Row} (h : rows[i]? = some r) : leavesOf (rows.take (i + 1)) = leavesAdd (leavesOf (rows.take i)) r := by
  unfold leavesOf
  rw [List.take_add_one, h, List.foldl_append]
  rfl
theorem leavesAdd_ok {acc : List (List Nat × List Nat)} {r : Row} (h : ∀ p ∈ acc, okP p) (hr : r.ok) : ∀ p ∈ leavesAdd acc r, okP p := by
  cases r with
  | leaf l n =>
    show ∀ p ∈ (if (l, n) ∈ acc then acc else acc ++ [(l, n)]), okP p
    by_cases hm : (l, n) ∈ acc
    · rw [if_pos hm]
      exact h
    · rw [if_neg hm]
      intro p hp
      rcases List.mem_append.mp hp with q | q
      · exact h p q
      · rw [List.mem_singleton.mp q]
        exact hr
  | asked wd n => exact h
  | done s k => exact h
theorem leavesAdd_len {acc : List (List Nat × List Nat)} {r : Row} : (leavesAdd acc r).length ≤ acc.length + 1 := by
  cases r with
  | leaf l n =>
    show (if (l, n) ∈ acc then acc else acc ++ [(l, n)]).length ≤ _
    by_cases hm : (l, n) ∈ acc
    · rw [if_pos hm]
      omega
    · rw [if_neg hm]
      simp
  | asked wd n => simp [leavesAdd]
  | done s k => simp [leavesAdd]
theorem leaves_ok {rows : List Row} (h : ∀ r ∈ rows, r.ok) : ∀ p ∈ leavesOf rows, okP p := by
  unfold leavesOf
  have : ∀ (rows : List Row) acc, (∀ r ∈ rows, r.ok) → (∀ p ∈ acc, okP p) → ∀ p ∈ rows.foldl leavesAdd acc, okP p := by
    intro rows
    induction rows with
    | nil => intro acc _ h; exact h
    | cons r rows ih =>
      intro acc h1 h2
      exact ih _ (fun x hx => h1 x (by simp [hx])) (leavesAdd_ok h2 (h1 r (by simp)))
  exact this rows [] h (by simp)
theorem small_lt : ∀ c ∈ smalls, c < 128 := by decide
theorem cap_lt : ∀ c ∈ capitals, c < 128 := by decide
theorem IsWord.okT {w : List Nat} (h : IsWord w) : okT w := fun c hc => small_lt c (h.sm c hc)
theorem IsClass.okT {w : List Nat} (h : IsClass w) : Hk.okT w := by
  obtain ⟨c, r, rfl, hc, _, hs⟩ := h.ex
  intro x hx
  rcases List.mem_cons.mp hx with rfl | hx
  · exact cap_lt _ hc
  · exact small_lt _ (hs x hx)
theorem un_okT : ∀ s ∈ unaries, okT s := by unfold okT; decide
theorem bin_okT : ∀ s ∈ binaries, okT s := by unfold okT; decide
theorem Tree.rows_ok : ∀ t : Tree, t.ok → ∀ r ∈ t.rows, r.ok
  | .leaf l n, h, r, hr => by
    rw [List.mem_singleton.mp hr]
    exact ⟨h.1.okT, h.2.okT⟩
  | .asked l n, h, r, hr => by
    rw [List.mem_singleton.mp hr]
    exact ⟨h.1.okT, h.2.2.okT⟩
  | .un s t, h, r, hr => by
    rcases List.mem_append.mp hr with hr | hr
    · exact t.rows_ok h.2 r hr
    · rw [List.mem_singleton.mp hr]
      exact un_okT s h.1
  | .bin s x y, h, r, hr => by
    rcases List.mem_append.mp hr with hr | hr
    · rcases List.mem_append.mp hr with hr | hr
      · exact x.rows_ok h.2.1 r hr
      · exact y.rows_ok h.2.2 r hr
    · rw [List.mem_singleton.mp hr]
      exact bin_okT s h.1
end Ex

/-! the drawn words and programs of the laws, plainly -/
namespace Ex
open PySem L2 Hk
/-- item by item -/
structure AllR {α β : Type} (R : α → β → Prop) (xs : List α) (ys : List β) : Prop where
  len : xs.length = ys.length
  at_ : ∀ (i : Nat) x y, xs[i]? = some x → ys[i]? = some y → R x y
section
variable {α β : Type} {R R' : α → β → Prop} {xs : List α} {ys : List β}
theorem AllR.nil : AllR R [] [] := ⟨rfl, fun i x y h => by simp at h⟩
theorem AllR.mono (h : AllR R xs ys) (k : ∀ x y, R x y → R' x y) : AllR R' xs ys := ⟨h.len, fun i x y e1 e2 => k x y (h.at_ i x y e1 e2)⟩
theorem AllR.get (h : AllR R xs ys) {i : Nat} {x : α} (e : xs[i]? = some x) : ∃ y, ys[i]? = some y ∧ R x y := by
  have hi : i < ys.length := by rw [← h.len]; exact (List.getElem?_eq_some_iff.mp e).1
  exact ⟨ys[i], List.getElem?_eq_getElem hi, h.at_ i x _ e (List.getElem?_eq_getElem hi)⟩
theorem AllR.snoc (h : AllR R xs ys) {x : α} {y : β} (k : R x y) : AllR R (xs ++ [x]) (ys ++ [y]) := by
  refine ⟨by simp [h.len], fun i a b e1 e2 => ?_⟩
  by_cases hi : i < xs.length
  · rw [List.getElem?_append_left hi] at e1
    rw [List.getElem?_append_left (by rw [← h.len]; exact hi)] at e2
    exact h.at_ i a b e1 e2
  · have e : i - xs.length = 0 := by
      rw [List.getElem?_append_right (by omega)] at e1
      have := (List.getElem?_eq_some_iff.mp e1).1
      simp at this
      omega
    rw [List.getElem?_append_right (by omega), e] at e1
    rw [List.getElem?_append_right (by have := h.len; omega), ← h.len, e] at e2
    simp at e1 e2
    subst e1 e2
    exact k
theorem AllR.set (h : AllR R xs ys) {i : Nat} {x : α} {y : β} (k : R x y) : AllR R (xs.set i x) (ys.set i y) := by
  refine ⟨by simp [h.len], fun j a b e1 e2 => ?_⟩
  rw [List.getElem?_set] at e1 e2
  by_cases hj : i = j
  · subst hj
    simp only [if_true] at e1 e2
    split at e1
    · split at e2
      · cases e1; cases e2; exact k
      · cases e2
    · cases e1
  · rw [if_neg hj] at e1 e2
    exact h.at_ j a b e1 e2
theorem AllR.erase (h : AllR R xs ys) {i : Nat} : AllR R (xs.eraseIdx i) (ys.eraseIdx i) := by
  refine ⟨by rw [List.length_eraseIdx, List.length_eraseIdx, h.len], fun j a b e1 e2 => ?_⟩
  rw [List.getElem?_eraseIdx] at e1 e2
  split at e1
  · rename_i hj
    rw [if_pos hj] at e2
    exact h.at_ _ a b e1 e2
  · rename_i hj
    rw [if_neg hj] at e2
    exact h.at_ _ a b e1 e2
theorem AllR.app {us : List α} {vs : List β} (h : AllR R xs ys) (h2 : AllR R us vs) : AllR R (xs ++ us) (ys ++ vs) := by
  refine ⟨by simp [h.len, h2.len], fun i a b e1 e2 => ?_⟩
  by_cases hi : i < xs.length
  · rw [List.getElem?_append_left hi] at e1
    rw [List.getElem?_append_left (by rw [← h.len]; exact hi)] at e2
    exact h.at_ i a b e1 e2
  · rw [List.getElem?_append_right (by omega)] at e1
    rw [List.getElem?_append_right (by have := h.len; omega), ← h.len] at e2
    exact h2.at_ _ a b e1 e2
theorem AllR.snoc_inv {y : β} (h : AllR R xs (ys ++ [y])) : ∃ us x, xs = us ++ [x] ∧ AllR R us ys ∧ R x y := by
  have hl := h.len
  simp at hl
  have hne : xs ≠ [] := by intro z; rw [z] at hl; simp at hl
  obtain ⟨us, x, rfl⟩ : ∃ us x, xs = us ++ [x] := ⟨_, _, (List.dropLast_concat_getLast hne).symm⟩
  simp at hl
  refine ⟨us, x, rfl, ⟨hl, fun i a b e1 e2 => ?_⟩, ?_⟩
  · have hi := (List.getElem?_eq_some_iff.mp e2).1
    have hi1 := (List.getElem?_eq_some_iff.mp e1).1
    refine h.at_ i a b ?_ ?_
    · rw [List.getElem?_append_left hi1]
      exact e1
    · rw [List.getElem?_append_left hi]
      exact e2
  · refine h.at_ ys.length _ _ ?_ ?_
    · rw [← hl]
      simp
    · simp
end
/-! ### words -/
def alph : List Nat := [97, 99, 100, 101, 102, 103, 104, 105, 106, 107]
def stems : List Nat := [97, 122, 113, 109]
def sgn (c : Nat) : List Nat := [alph.getD (c / 10) 97, alph.getD (c % 10) 97]
def wordOf (ahead : Bool) (stem : List Nat) (shift k : Nat) : List Nat := if ahead then sgn ((k + shift) % 100) ++ stem else stem ++ sgn ((k + shift) % 100)
def wordsOf (ahead : Bool) (stem : List Nat) (shift n : Nat) : List (List Nat) := (List.range n).map (wordOf ahead stem shift)
def Stem (stem : List Nat) : Prop := stem.length ≤ 6 ∧ ∀ c ∈ stem, c ∈ stems
theorem alph_getD (i : Nat) : alph.getD i 97 ∈ alph := by
  by_cases h : i < alph.length
  · rw [List.getD_eq_getElem?_getD, List.getElem?_eq_getElem h]
    exact List.getElem_mem h
  · rw [List.getD_eq_getElem?_getD, List.getElem?_eq_none (by omega)]
    decide
theorem alph_at {i : Nat} (h : i < 10) : alph[i]? = some (alph.getD i 97) := by
  have h' : i < alph.length := h
  rw [List.getD_eq_getElem?_getD, List.getElem?_eq_getElem h']
  rfl
theorem alph_small : ∀ c ∈ alph, c ∈ smalls := by decide
theorem stems_small : ∀ c ∈ stems, c ∈ smalls := by decide
theorem word_mem {ahead : Bool} {stem : List Nat} {shift k : Nat} (hs : Stem stem) : ∀ c ∈ wordOf ahead stem shift k, c ∈ alph ++ stems := by
  intro c hc
  have h1 : ∀ c ∈ sgn ((k + shift) % 100), c ∈ alph ++ stems := by
    intro c hc
    refine List.mem_append_left _ ?_
    simp [sgn] at hc
    rcases hc with rfl | rfl
    · simpa using alph_getD _
    · simpa using alph_getD _
  have h2 : ∀ c ∈ stem, c ∈ alph ++ stems := fun c hc => List.mem_append_right _ (hs.2 c hc)
  unfold wordOf at hc
  split at hc
  · rcases List.mem_append.mp hc with z | z
    · exact h1 c z
    · exact h2 c z
  · rcases List.mem_append.mp hc with z | z
    · exact h2 c z
    · exact h1 c z
theorem word_len {ahead : Bool} {stem : List Nat} {shift k : Nat} : (wordOf ahead stem shift k).length = stem.length + 2 := by
  unfold wordOf
  split <;> simp [sgn]
theorem word_is {ahead : Bool} {stem : List Nat} {shift k : Nat} (hs : Stem stem) : IsWord (wordOf ahead stem shift k) := by
  have hl := word_len (ahead := ahead) (stem := stem) (shift := shift) (k := k)
  have := hs.1
  refine ⟨fun z => by rw [z] at hl; simp at hl, by omega, fun c hc => ?_⟩
  rcases List.mem_append.mp (word_mem hs c hc) with z | z
  · exact alph_small c z
  · exact stems_small c z
theorem un_other : ∀ u ∈ unaries, ∃ c ∈ u, c ∉ alph ++ stems := by decide
theorem word_un {ahead : Bool} {stem : List Nat} {shift k : Nat} (hs : Stem stem) : wordOf ahead stem shift k ∉ unaries := by
  intro h
  obtain ⟨c, hc, hn⟩ := un_other _ h
  exact hn (word_mem hs c hc)
theorem words_is {ahead : Bool} {stem : List Nat} {shift n : Nat} (hs : Stem stem) : ∀ w ∈ wordsOf ahead stem shift n, IsWord w ∧ w ∉ unaries := by
  intro w hw
  obtain ⟨k, _, rfl⟩ := List.mem_map.mp hw
  exact ⟨word_is hs, word_un hs⟩
theorem words_len (ahead : Bool) (stem : List Nat) (shift n : Nat) : (wordsOf ahead stem shift n).length = n := by simp [wordsOf]
/-! ### operations -/
/-- a sign and its arity -/
structure IsOp (o : List Nat × Nat) : Prop where
  two : o.2 = 2 → o.1 ∈ binaries
  one : o.2 = 1 → o.1 ∈ unaries
  zero : o.2 = 0 → IsWord o.1 ∧ o.1 ∉ unaries
def ofArity (n : Nat) (ops : List (List Nat × Nat)) : List (List Nat) := (ops.filter fun o => decide (o.2 = n)).map (·.1)
theorem mem_arity {n : Nat} {ops : List (List Nat × Nat)} {s : List Nat} (h : s ∈ ofArity n ops) : ∃ o ∈ ops, o.1 = s ∧ o.2 = n := by
  obtain ⟨o, ho, rfl⟩ := List.mem_map.mp h
  have := List.mem_filter.mp ho
  exact ⟨o, this.1, rfl, by simpa using this.2⟩
/-! ### the stack machine that writes and builds -/
abbrev Stk := List (List Nat × List Row)
def estep (st : Stk) : Row → Option Stk
  | .leaf l n => some (st ++ [(l ++ 58 :: n, [.leaf l n])])
  | .asked w n => some (st ++ [(n ++ 46 :: w, [.asked w n])])
  | .done s 1 => match st.getLast? with
    | some x => some (st.dropLast ++ [(s ++ 40 :: (x.1 ++ [41]), x.2 ++ [.done s 1])])
    | none => none
  | .done s 2 => match st.getLast?, st.dropLast.getLast? with
    | some y, some x => some (st.dropLast.dropLast ++ [(40 :: (x.1 ++ 32 :: (s ++ 32 :: (y.1 ++ [41]))), x.2 ++ y.2 ++ [.done s 2])])
    | _, _ => none
  | .done _ _ => none
def erun : Stk → List Row → Option Stk
  | st, [] => some st
  | st, r :: rs => match estep st r with
    | some st' => erun st' rs
    | none => none
theorem erun_app (st : Stk) (xs ys : List Row) : erun st (xs ++ ys) = match erun st xs with | some st' => erun st' ys | none => none := by
  induction xs generalizing st with
  | nil => rfl
  | cons r xs ih =>
    show (match estep st r with | some st' => erun st' (xs ++ ys) | none => none) = _
    simp only [erun]
    cases estep st r with
    | none => rfl
    | some st' => exact ih st'
theorem erun_tree : ∀ (t : Tree) (st : Stk), erun st t.rows = some (st ++ [(t.text, t.rows)])
  | .leaf l n, st => rfl
  | .asked w n, st => rfl
  | .un s t, st => by
    show erun st (t.rows ++ [.done s 1]) = _
    rw [erun_app, erun_tree t st]
    simp [erun, estep, Tree.text, Tree.rows]
  | .bin s x y, st => by
    show erun st (x.rows ++ y.rows ++ [.done s 2]) = _
    rw [erun_app, erun_app, erun_tree x st]
    simp only
    rw [erun_tree y]
    simp [erun, estep, Tree.text, Tree.rows]
/-- the rows on the stack are those that have been seen -/
def flat (st : Stk) : List Row := (st.map (·.2)).flatten
def slen (st : Stk) : Nat := (st.map (·.1.length)).sum
theorem flat_app (a b : Stk) : flat (a ++ b) = flat a ++ flat b := by simp [flat]
theorem slen_app (a b : Stk) : slen (a ++ b) = slen a + slen b := by simp [slen]
theorem stk_snoc {st : Stk} {x : List Nat × List Row} (h : st.getLast? = some x) : st = st.dropLast ++ [x] := by
  have hne : st ≠ [] := by intro z; rw [z] at h; cases h
  rw [List.getLast?_eq_some_getLast hne] at h
  cases h
  exact (List.dropLast_concat_getLast hne).symm
/-- rows whose words are short -/
def Row.small : Row → Prop
  | .leaf l n => l.length ≤ 8 ∧ n.length ≤ 8
  | .asked w n => w.length ≤ 8 ∧ n.length ≤ 8
  | .done s k => s.length ≤ 8 ∧ (k = 1 ∨ k = 2)
theorem estep_inv {st st' : Stk} {r : Row} (h : estep st r = some st') (hr : r.small) : flat st' = flat st ++ [r] ∧ slen st' ≤ slen st + 17 := by
  unfold estep at h
  split at h
  · cases h
    obtain ⟨h1, h2⟩ := hr
    exact ⟨by simp [flat], by simp [slen]; omega⟩
  · cases h
    obtain ⟨h1, h2⟩ := hr
    exact ⟨by simp [flat], by simp [slen]; omega⟩
  · split at h
    · rename_i x e
      cases h
      have es := stk_snoc e
      obtain ⟨h1, _⟩ := hr
      refine ⟨?_, ?_⟩
      · conv => rhs; rw [es]
        simp [flat]
      · have e2 : slen st = slen st.dropLast + x.1.length := by
          conv => lhs; rw [es]
          simp [slen]
        rw [slen_app, e2]
        simp [slen]
        omega
    · cases h
  · split at h
    · rename_i y x e1 e2
      cases h
      have es := stk_snoc e1
      have es2 := stk_snoc e2
      obtain ⟨h1, _⟩ := hr
      have ef : st = st.dropLast.dropLast ++ [x] ++ [y] := by rw [← es2]; exact es
      refine ⟨?_, ?_⟩
      · conv => rhs; rw [ef]
        simp [flat]
      · have e3 : slen st = slen st.dropLast.dropLast + x.1.length + y.1.length := by
          conv => lhs; rw [ef]
          simp [slen]
          omega
        rw [slen_app, e3]
        simp [slen]
        omega
    · cases h
  · cases h
theorem Tree.rows_small : ∀ t : Tree, t.ok → ∀ r ∈ t.rows, r.small
  | .leaf l n, h, r, hr => by
    rw [List.mem_singleton.mp hr]
    exact ⟨h.1.le, h.2.len⟩
  | .asked l n, h, r, hr => by
    rw [List.mem_singleton.mp hr]
    exact ⟨h.1.le, h.2.2.len⟩
  | .un s t, h, r, hr => by
    rcases List.mem_append.mp hr with hr | hr
    · exact t.rows_small h.2 r hr
    · rw [List.mem_singleton.mp hr]
      have := un_len s h.1
      exact ⟨by omega, .inl rfl⟩
  | .bin s x y, h, r, hr => by
    rcases List.mem_append.mp hr with hr | hr
    · rcases List.mem_append.mp hr with hr | hr
      · exact x.rows_small h.2.1 r hr
      · exact y.rows_small h.2.2 r hr
    · rw [List.mem_singleton.mp hr]
      have := bin_len s h.1
      exact ⟨by omega, .inr rfl⟩
/-- the signs of rows: done rows have unary or binary signs -/
def Row.sgn : Row → Prop
  | .done s k => (k = 1 ∧ s ∈ unaries) ∨ (k = 2 ∧ s ∈ binaries)
  | _ => True
theorem Tree.rows_sgn : ∀ t : Tree, t.ok → ∀ r ∈ t.rows, r.sgn
  | .leaf l n, h, r, hr => by rw [List.mem_singleton.mp hr]; trivial
  | .asked l n, h, r, hr => by rw [List.mem_singleton.mp hr]; trivial
  | .un s t, h, r, hr => by
    rcases List.mem_append.mp hr with hr | hr
    · exact t.rows_sgn h.2 r hr
    · rw [List.mem_singleton.mp hr]; exact .inl ⟨rfl, h.1⟩
  | .bin s x y, h, r, hr => by
    rcases List.mem_append.mp hr with hr | hr
    · rcases List.mem_append.mp hr with hr | hr
      · exact x.rows_sgn h.2.1 r hr
      · exact y.rows_sgn h.2.2 r hr
    · rw [List.mem_singleton.mp hr]; exact .inr ⟨rfl, h.1⟩
end Ex

/-! trees on a stack; the leaves of joined rows -/
namespace Ex
open PySem L2 Hk
def tstep (st : List Tree) : Row → Option (List Tree)
  | .leaf l n => some (st ++ [.leaf l n])
  | .asked w n => some (st ++ [.asked w n])
  | .done s 1 => match st.getLast? with
    | some x => some (st.dropLast ++ [.un s x])
    | none => none
  | .done s 2 => match st.getLast?, st.dropLast.getLast? with
    | some y, some x => some (st.dropLast.dropLast ++ [.bin s x y])
    | _, _ => none
  | .done _ _ => none
def trun : List Tree → List Row → Option (List Tree)
  | st, [] => some st
  | st, r :: rs => match tstep st r with
    | some st' => trun st' rs
    | none => none
theorem trun_app (st : List Tree) (xs ys : List Row) : trun st (xs ++ ys) = match trun st xs with | some st' => trun st' ys | none => none := by
  induction xs generalizing st with
  | nil => rfl
  | cons r xs ih =>
    show (match tstep st r with | some st' => trun st' (xs ++ ys) | none => none) = _
    simp only [trun]
    cases tstep st r with
    | none => rfl
    | some st' => exact ih st'
theorem trun_tree : ∀ (t : Tree) (st : List Tree), trun st t.rows = some (st ++ [t])
  | .leaf l n, st => rfl
  | .asked w n, st => rfl
  | .un s t, st => by
    show trun st (t.rows ++ [.done s 1]) = _
    rw [trun_app, trun_tree t st]
    simp [trun, tstep]
  | .bin s x y, st => by
    show trun st (x.rows ++ y.rows ++ [.done s 2]) = _
    rw [trun_app, trun_app, trun_tree x st]
    simp only
    rw [trun_tree y]
    simp [trun, tstep]
def tflat (st : List Tree) : List Row := (st.map Tree.rows).flatten
theorem tflat_snoc (st : List Tree) (t : Tree) : tflat (st ++ [t]) = tflat st ++ t.rows := by simp [tflat]
theorem tl_snoc {α : Type} {st : List α} {x : α} (h : st.getLast? = some x) : st = st.dropLast ++ [x] := by
  have hne : st ≠ [] := by intro z; rw [z] at h; cases h
  rw [List.getLast?_eq_some_getLast hne] at h
  cases h
  exact (List.dropLast_concat_getLast hne).symm
theorem tone_of {st st' : List Tree} {s : List Nat} (h : tstep st (.done s 1) = some st') : ∃ st0 x, st = st0 ++ [x] ∧ st' = st0 ++ [.un s x] := by
  simp only [tstep] at h
  split at h
  · rename_i x e
    cases h
    exact ⟨st.dropLast, x, tl_snoc e, rfl⟩
  · cases h
theorem ttwo_of {st st' : List Tree} {s : List Nat} (h : tstep st (.done s 2) = some st') : ∃ st0 x y, st = st0 ++ [x] ++ [y] ∧ st' = st0 ++ [.bin s x y] := by
  simp only [tstep] at h
  split at h
  · rename_i y x e1 e2
    cases h
    refine ⟨st.dropLast.dropLast, x, y, ?_, rfl⟩
    rw [← tl_snoc e2]
    exact tl_snoc e1
  · cases h
theorem trun_cons {st : List Tree} {r : Row} {rs : List Row} {fin : List Tree} (h : trun st (r :: rs) = some fin) : ∃ st', tstep st r = some st' ∧ trun st' rs = some fin := by
  simp only [trun] at h
  cases e : tstep st r with
  | none => rw [e] at h; cases h
  | some st' => rw [e] at h; exact ⟨st', rfl, h⟩
/-- a row of a right tree -/
def Row.good : Row → Prop
  | .leaf l n => IsWord l ∧ IsClass n
  | .asked w n => IsWord w ∧ w ∉ unaries ∧ IsClass n
  | .done s k => (k = 1 ∧ s ∈ unaries) ∨ (k = 2 ∧ s ∈ binaries)
theorem Tree.rows_good : ∀ t : Tree, t.ok → ∀ r ∈ t.rows, r.good
  | .leaf l n, h, r, hr => by rw [List.mem_singleton.mp hr]; exact h
  | .asked l n, h, r, hr => by rw [List.mem_singleton.mp hr]; exact h
  | .un s t, h, r, hr => by
    rcases List.mem_append.mp hr with hr | hr
    · exact t.rows_good h.2 r hr
    · rw [List.mem_singleton.mp hr]; exact .inl ⟨rfl, h.1⟩
  | .bin s x y, h, r, hr => by
    rcases List.mem_append.mp hr with hr | hr
    · rcases List.mem_append.mp hr with hr | hr
      · exact x.rows_good h.2.1 r hr
      · exact y.rows_good h.2.2 r hr
    · rw [List.mem_singleton.mp hr]; exact .inr ⟨rfl, h.1⟩
/-! ### leaves -/
theorem leavesAdd_app (acc base : List (List Nat × List Nat)) (r : Row) : leavesAdd (base ++ acc.filter (fun p => !decide (p ∈ base))) r = base ++ (leavesAdd acc r).filter (fun p => !decide (p ∈ base)) := by
  cases r with
  | leaf l n =>
    show (if (l, n) ∈ base ++ acc.filter _ then _ else _) = base ++ (if (l, n) ∈ acc then acc else acc ++ [(l, n)]).filter _
    by_cases hb : (l, n) ∈ base
    · rw [if_pos (List.mem_append_left _ hb)]
      by_cases ha : (l, n) ∈ acc
      · rw [if_pos ha]
      · rw [if_neg ha, List.filter_append]
        simp [hb]
    · by_cases ha : (l, n) ∈ acc
      · rw [if_pos (List.mem_append_right _ (List.mem_filter.mpr ⟨ha, by simp [hb]⟩)), if_pos ha]
      · rw [if_neg ha, if_neg, List.filter_append]
        · simp [hb]
        · intro z
          rcases List.mem_append.mp z with z | z
          · exact hb z
          · exact ha (List.mem_filter.mp z).1
  | asked w n => rfl
  | done s k => rfl
theorem leaves_fold (base : List (List Nat × List Nat)) : ∀ (rows : List Row) (acc : List (List Nat × List Nat)), rows.foldl leavesAdd (base ++ acc.filter (fun p => !decide (p ∈ base))) = base ++ (rows.foldl leavesAdd acc).filter (fun p => !decide (p ∈ base))
  | [], acc => rfl
  | r :: rows, acc => by
    simp only [List.foldl_cons]
    rw [leavesAdd_app, leaves_fold base rows]
theorem leaves_app (x y : List Row) : leavesOf (x ++ y) = leavesOf x ++ (leavesOf y).filter (fun p => !decide (p ∈ leavesOf x)) := by
  unfold leavesOf
  rw [List.foldl_append]
  have := leaves_fold (x.foldl leavesAdd []) y []
  simpa using this
theorem leaves_done (x : List Row) (s : List Nat) (k : Nat) : leavesOf (x ++ [.done s k]) = leavesOf x := by
  unfold leavesOf
  rw [List.foldl_append]
  rfl
theorem leaves_bin (x y : List Row) (s : List Nat) (k : Nat) : leavesOf (x ++ y ++ [.done s k]) = leavesOf x ++ (leavesOf y).filter (fun p => !decide (p ∈ leavesOf x)) := by rw [leaves_done, leaves_app]
theorem leaves_len (rows : List Row) : (leavesOf rows).length ≤ rows.length := by
  have : ∀ (rows : List Row) acc, (rows.foldl leavesAdd acc).length ≤ acc.length + rows.length := by
    intro rows
    induction rows with
    | nil => intro acc; simp
    | cons r rows ih =>
      intro acc
      have h1 := ih (leavesAdd acc r)
      have h2 := leavesAdd_len (acc := acc) (r := r)
      simp only [List.foldl_cons, List.length_cons]
      omega
  simpa [leavesOf] using this rows []
end Ex

/-! A comprehension whose turns write to things that are one's own. -/
namespace Hk
open PySem PySem.Spec PyProof.Rows L2
section
variable {K : PySem.W.Frag} {σ : L2.St} {F H : Hp} {g : TG} {tt : TT} {te : TE} {vs : List Nat} {Q : VK} {S : List Addr}
theorem lcH {J : It} {n : Nat} {X : Nat → V → Prop} (A : Nat → Hp → Hp → List V → Prop) (fh : Same F H) (hz : n ≤ 100000)
    (hst : ∀ H', Same F H' → J.stop n H') (hgo : ∀ i H', Same F H' → i < n → J.go i H') (hy : ∀ i H1 x H2, i < n → Same F H1 → J.yld i H1 x H2 → H2 = H1 ∧ X i x)
    (a0 : A 0 F H []) (aup : ∀ i F' H' acc D o, A i F' H' acc → H D = none → F' D = none → A i F' (upd H' D o) acc) (al : ∀ i F' H' acc, A i F' H' acc → acc.length ≤ i)
    (turn : ∀ i x F1 H1 acc, i < n → X i x → Grow S F H F1 H1 → A i F1 H1 acc → ∀ (Done : Hp → Prop) (Kept : VK), (∀ F2 H2, Grow S F1 H1 F2 H2 → A (i + 1) F2 H2 acc → Done H2) →
      (∀ F2 H2 y, Grow S F1 H1 F2 H2 → A (i + 1) F2 H2 (acc ++ [y]) → Kept y H2) →
      g x (wipe σ vs) H1 fun σ2 H2 => wipe σ2 vs = wipe σ vs ∧ tt σ2 H2 fun b H3 => if b = true then te σ2 H3 Kept else Done H3)
    (hS : ∀ D, H D = none → D ∉ S)
    (q : ∀ F' H' D acc, Grow S F H F' H' → H D = none → Hold F' H' D (.lst acc) → A n F' H' acc → Q (.ref D) H') : LcK J g tt te vs σ H Q := by
  intro D hD
  have fD : F D = none := fh.free hD
  have nD : D ∉ S := hS D hD
  refine ⟨fun i m H' => m = n - i ∧ i ≤ n ∧ ∃ F' acc, Grow S F H F' H' ∧ Hold F' H' D (.lst acc) ∧ A i F' H' acc, ⟨n, by simp, Nat.zero_le _, F, [], (Grow.refl fh).newO hD, Hold.new fh hD, aup _ _ _ _ _ _ a0 hD fD⟩, ?_⟩
  rintro i m H1 ⟨rfl, hi, F1, acc, g1, d1, a1⟩
  have s1 : Same F H1 := g1.ff.trans g1.fh
  by_cases hlt : i < n
  · refine .inr ⟨hgo i H1 s1 hlt, fun H' => i + 1 ≤ n ∧ ∃ F' acc, Grow S F H F' H' ∧ Hold F' H' D (.lst acc) ∧ A (i + 1) F' H' acc, fun H' p' => ⟨n - (i + 1), by omega, rfl, p'⟩, fun x H2 y => ?_⟩
    obtain ⟨rfl, hx⟩ := hy i H1 x H2 hlt s1 y
    refine turn i x F1 H2 acc hlt hx g1 a1 _ _ (fun F3 H3 g3 a3 => ?_) (fun F3 H3 y g3 a3 => ?_)
    · exact ⟨hlt, F3, acc, g1.trans g3, d1.go g3 nD, a3⟩
    · have d3 := d1.go g3 nD
      refine ⟨acc, d3.h, ?_, hlt, F3, acc ++ [y], (g1.trans g3).mut d3.f (.inr hD), d3.put, aup _ _ _ _ _ _ a3 hD d3.f⟩
      have := al _ _ _ _ a1
      rw [sizeLine_eq]
      omega
  · have e : i = n := by omega
    subst e
    exact .inl ⟨hst H1 s1, q F1 H1 D acc g1 hD d1 a1⟩
/-- over range(n) -/
theorem lcHR {n : Nat} (A : Nat → Hp → Hp → List V → Prop) (fh : Same F H) (hz : n ≤ 100000)
    (a0 : A 0 F H []) (aup : ∀ i F' H' acc D o, A i F' H' acc → H D = none → F' D = none → A i F' (upd H' D o) acc) (al : ∀ i F' H' acc, A i F' H' acc → acc.length ≤ i)
    (turn : ∀ (i : Nat) F1 H1 acc, i < n → Grow S F H F1 H1 → A i F1 H1 acc → ∀ (Done : Hp → Prop) (Kept : VK), (∀ F2 H2, Grow S F1 H1 F2 H2 → A (i + 1) F2 H2 acc → Done H2) →
      (∀ F2 H2 y, Grow S F1 H1 F2 H2 → A (i + 1) F2 H2 (acc ++ [y]) → Kept y H2) →
      g (.int (i : Int)) (wipe σ vs) H1 fun σ2 H2 => wipe σ2 vs = wipe σ vs ∧ tt σ2 H2 fun b H3 => if b = true then te σ2 H3 Kept else Done H3)
    (hS : ∀ D, H D = none → D ∉ S)
    (q : ∀ F' H' D acc, Grow S F H F' H' → H D = none → Hold F' H' D (.lst acc) → A n F' H' acc → Q (.ref D) H') : LcK (Itr 0 n) g tt te vs σ H Q :=
  lcH (X := fun i x => x = .int (i : Int)) A fh hz (fun H' s => Nat.le_refl _) (fun i H' s hi => hi)
    (fun i H1 x H2 hi s1 y => rng_yld y) a0 aup al
    (fun i x F1 H1 acc hi hx' g1 a1 Done Kept hd hk => by subst hx'; exact turn i F1 H1 acc hi g1 a1 Done Kept hd hk) hS q
end
theorem new_rep {F H : Hp} {Q : VK} {r : Addr} {xs : List V} {k : Int} (fh : Same F H) (h : H r = some (.lst xs)) (h1 : 0 ≤ k) (h2 : k < 1000) (hz : xs.length * k.toNat ≤ 100000) (q : ∀ F' H' p, Grow [] F H F' H' → H p = none → F' p = some (.lst (List.replicate k.toNat xs).flatten) → Q (.ref p) H') : rRep (.ref r) (.int k) H Q :=
  ⟨r, k, xs, rfl, rfl, h, by omega, by omega, sz_of hz, fun p hp => q _ _ p ((Grow.refl fh).new hp) hp upd_same⟩
theorem rd_intB {H : Hp} {Q : VK} {b : Bool} (q : Q (.int (if b then 1 else 0)) H) : rInt1 [.bl b] H Q := .inr ⟨b, rfl, q⟩
section
variable {X : Cx} {K : PySem.W.Frag} {o e : Expr} {es : List Expr} {to : TE} {t : TA} {name : Str} {apos cpos : Pos} {T id : String} {r : V → List V → Hp → VK → Prop}
theorem pe_bm0K (pa : PlainAttrs T) (slot : Slot T name id) (hty : typeOf (.builtin id) = pure (.type "method_descriptor")) (hm : MtR X id r) (ho : PE X o to)
    (hK : X.K = K := by rfl) (hbase : attributeBase o name X.env (eval o X.env) = eval o X.env := by rfl) (hline : (apos.endLine == cpos.line) = true := by rfl) : PE X (.Call (.Attribute o name apos) [] [] cpos) (tBM0 K T r to) := hK ▸ pe_bm0 pa slot hty hm ho hbase hline
end
theorem op_notInDK {X : Cx} {K : PySem.W.Frag} (hu : X.A.units + 65 < cLine) (h : X.K = K := by rfl) : OpR X (compareOp .NotIn) (rNotInD K) := h ▸ op_notInD hu
theorem op_inDK {X : Cx} {K : PySem.W.Frag} (hu : X.A.units + 65 < cLine) (h : X.K = K := by rfl) : OpR X (compareOp .In) (rInD K) := h ▸ op_inD hu
end Hk

/-! a tree, joined to itself again and again -/
namespace Ex
open PySem L2 Hk
def rep (s : List Nat) (t : Tree) : Nat → Tree
  | 0 => t
  | k + 1 => .bin s (rep s t k) t
def repT (s t : List Nat) : Nat → List Nat
  | 0 => t
  | k + 1 => 40 :: (repT s t k ++ 32 :: (s ++ 32 :: (t ++ [41])))
theorem rep_text (s : List Nat) (t : Tree) : ∀ k, (rep s t k).text = repT s t.text k
  | 0 => rfl
  | k + 1 => by simp [rep, repT, Tree.text, rep_text s t k]
theorem rep_ok {s : List Nat} {t : Tree} (hs : s ∈ binaries) (ht : t.ok) : ∀ k, (rep s t k).ok
  | 0 => ht
  | k + 1 => ⟨hs, rep_ok hs ht k, ht⟩
theorem rep_steps (s : List Nat) (t : Tree) : ∀ k, nSteps (rep s t k).rows = (k + 1) * nSteps t.rows + k
  | 0 => by simp [rep]
  | k + 1 => by
    simp only [rep, Tree.rows, nSteps_app, nSteps_done, rep_steps s t k]
    rw [Nat.add_mul (k + 1) 1]
    omega
theorem rep_rows (s : List Nat) (t : Tree) : ∀ k, (rep s t k).rows.length = (k + 1) * t.rows.length + k
  | 0 => by simp [rep]
  | k + 1 => by
    simp only [rep, Tree.rows, List.length_append, rep_rows s t k, List.length_cons, List.length_nil]
    rw [Nat.add_mul (k + 1) 1]
    omega
theorem repT_len (s t : List Nat) : ∀ k, (repT s t k).length = (k + 1) * t.length + k * (s.length + 4)
  | 0 => by simp [repT]
  | k + 1 => by
    simp only [repT, List.length_cons, List.length_append, List.length_nil, repT_len s t k]
    have a1 : (k + 1 + 1) * t.length = (k + 1) * t.length + t.length := by rw [Nat.add_mul (k + 1) 1, Nat.one_mul]
    have a2 : (k + 1) * (s.length + 4) = k * (s.length + 4) + (s.length + 4) := by rw [Nat.add_mul k 1, Nat.one_mul]
    omega
theorem rep_signs (s : List Nat) (t : Tree) : ∀ k, signsOf (rep s t k).rows = signsOf t.rows ++ (List.replicate k (signsOf t.rows ++ [s])).flatten
  | 0 => by simp [rep]
  | k + 1 => by
    simp only [rep, Tree.rows, signsOf_app, rep_signs s t k]
    have e : signsOf [Row.done s 2] = [s] := rfl
    rw [e, List.replicate_succ']
    simp [List.append_assoc]
theorem rep_leaves (s : List Nat) (t : Tree) : ∀ k, leavesOf (rep s t k).rows = leavesOf t.rows
  | 0 => rfl
  | k + 1 => by
    have h : leavesOf (rep s t (k + 1)).rows = leavesOf (rep s t k).rows ++ (leavesOf t.rows).filter (fun p => !decide (p ∈ leavesOf (rep s t k).rows)) := leaves_bin _ _ _ _
    rw [h, rep_leaves s t k]
    simp
theorem Tree.rows_steps : ∀ t : Tree, t.rows.length ≤ 2 * nSteps t.rows + 1
  | .leaf _ _ => by simp [Tree.rows]
  | .asked _ _ => by simp [Tree.rows]
  | .un s t => by
    have := t.rows_steps
    simp only [Tree.rows, nSteps_app, nSteps_done, List.length_append, List.length_cons, List.length_nil]
    omega
  | .bin s x y => by
    have := x.rows_steps
    have := y.rows_steps
    simp only [Tree.rows, nSteps_app, nSteps_done, List.length_append, List.length_cons, List.length_nil]
    omega
/-- the bounds that a repetition needs -/
theorem rep_small {t : Tree} {n : Nat} (ho : t.ok) (h : n * (nSteps t.rows + 1) ≤ 101) : n * (t.text.length + 10) ≤ 10000 ∧ n * (t.rows.length + 1) ≤ 1000 := by
  have h1 := t.rows_steps
  have h2 := t.text_len ho
  have h3 : t.text.length + 10 ≤ 34 * (nSteps t.rows + 1) := by omega
  have h4 : t.rows.length + 1 ≤ 2 * (nSteps t.rows + 1) := by omega
  have h5 := Nat.mul_le_mul_left n h3
  have h6 := Nat.mul_le_mul_left n h4
  have e1 : n * (34 * (nSteps t.rows + 1)) = 34 * (n * (nSteps t.rows + 1)) := by rw [← Nat.mul_assoc, Nat.mul_comm n 34, Nat.mul_assoc]
  have e2 : n * (2 * (nSteps t.rows + 1)) = 2 * (n * (nSteps t.rows + 1)) := by rw [← Nat.mul_assoc, Nat.mul_comm n 2, Nat.mul_assoc]
  omega
end Ex

namespace Ex
open PySem L2 Hk
def top (i : Nat) : Stmt := PySem.Challenge.pw_heirsback_k33_too_many_steps.main.body.getD i (.Pass ⟨0, 0, 0, 0⟩)
abbrev s_BadExpression_init : Stmt := inClass (top 3) 0
theorem sc_BadExpression_init : FnScope ["self", "at"] ["self", "at"] (defScope s_BadExpression_init) := ⟨rfl, rfl, rfl, by decide +kernel, rfl, by decide +kernel, by decide +kernel⟩
abbrev s_TooMany_init : Stmt := inClass (top 4) 0
theorem sc_TooMany_init : FnScope ["self", "what"] ["self", "what"] (defScope s_TooMany_init) := ⟨rfl, rfl, rfl, by decide +kernel, rfl, by decide +kernel, by decide +kernel⟩
abbrev s_Expression_init : Stmt := inClass (top 14) 0
theorem sc_Expression_init : FnScope ["self", "text", "program"] ["self", "text", "program"] (defScope s_Expression_init) := ⟨rfl, rfl, rfl, by decide +kernel, rfl, by decide +kernel, by decide +kernel⟩
abbrev s_Expression_leaf : Stmt := inClass (top 14) 1
theorem sc_Expression_leaf : FnScope ["label", "name"] ["label", "name"] (defScope s_Expression_leaf) := ⟨rfl, rfl, rfl, by decide +kernel, rfl, by decide +kernel, by decide +kernel⟩
abbrev s_Expression_asked : Stmt := inClass (top 14) 2
theorem sc_Expression_asked : FnScope ["name", "word"] ["name", "word"] (defScope s_Expression_asked) := ⟨rfl, rfl, rfl, by decide +kernel, rfl, by decide +kernel, by decide +kernel⟩
abbrev s_Expression_read : Stmt := inClass (top 14) 3
theorem sc_Expression_read : FnScope ["cls", "text", "program"] ["cls", "text"] (defScope s_Expression_read) := ⟨rfl, rfl, rfl, by decide +kernel, rfl, by decide +kernel, by decide +kernel⟩
abbrev s_Expression_len : Stmt := inClass (top 14) 7
theorem sc_Expression_len : FnScope ["self", "row"] ["self"] (defScope s_Expression_len) := ⟨rfl, rfl, rfl, by decide +kernel, rfl, by decide +kernel, by decide +kernel⟩
abbrev s_Expression_str : Stmt := inClass (top 14) 8
theorem sc_Expression_str : FnScope ["self"] ["self"] (defScope s_Expression_str) := ⟨rfl, rfl, rfl, by decide +kernel, rfl, by decide +kernel, by decide +kernel⟩
abbrev s_Expression_eq : Stmt := inClass (top 14) 9
theorem sc_Expression_eq : FnScope ["self", "other"] ["self", "other"] (defScope s_Expression_eq) := ⟨rfl, rfl, rfl, by decide +kernel, rfl, by decide +kernel, by decide +kernel⟩
abbrev s_Expression_add : Stmt := inClass (top 14) 10
theorem sc_Expression_add : FnScope ["self", "other"] ["self", "other"] (defScope s_Expression_add) := ⟨rfl, rfl, rfl, by decide +kernel, rfl, by decide +kernel, by decide +kernel⟩
abbrev s_Expression_sub : Stmt := inClass (top 14) 11
theorem sc_Expression_sub : FnScope ["self", "other"] ["self", "other"] (defScope s_Expression_sub) := ⟨rfl, rfl, rfl, by decide +kernel, rfl, by decide +kernel, by decide +kernel⟩
abbrev s_Expression_mul : Stmt := inClass (top 14) 12
theorem sc_Expression_mul : FnScope ["self", "other"] ["self", "other"] (defScope s_Expression_mul) := ⟨rfl, rfl, rfl, by decide +kernel, rfl, by decide +kernel, by decide +kernel⟩
abbrev s_Expression_floordiv : Stmt := inClass (top 14) 13
theorem sc_Expression_floordiv : FnScope ["self", "other"] ["self", "other"] (defScope s_Expression_floordiv) := ⟨rfl, rfl, rfl, by decide +kernel, rfl, by decide +kernel, by decide +kernel⟩
abbrev s_Expression_and : Stmt := inClass (top 14) 14
theorem sc_Expression_and : FnScope ["self", "other"] ["self", "other"] (defScope s_Expression_and) := ⟨rfl, rfl, rfl, by decide +kernel, rfl, by decide +kernel, by decide +kernel⟩
abbrev s_Expression_or : Stmt := inClass (top 14) 15
theorem sc_Expression_or : FnScope ["self", "other"] ["self", "other"] (defScope s_Expression_or) := ⟨rfl, rfl, rfl, by decide +kernel, rfl, by decide +kernel, by decide +kernel⟩
abbrev s_Expression_xor : Stmt := inClass (top 14) 16
theorem sc_Expression_xor : FnScope ["self", "other"] ["self", "other"] (defScope s_Expression_xor) := ⟨rfl, rfl, rfl, by decide +kernel, rfl, by decide +kernel, by decide +kernel⟩
abbrev s_Expression_lshift : Stmt := inClass (top 14) 17
theorem sc_Expression_lshift : FnScope ["self", "other"] ["self", "other"] (defScope s_Expression_lshift) := ⟨rfl, rfl, rfl, by decide +kernel, rfl, by decide +kernel, by decide +kernel⟩
abbrev s_Expression_rshift : Stmt := inClass (top 14) 18
theorem sc_Expression_rshift : FnScope ["self", "other"] ["self", "other"] (defScope s_Expression_rshift) := ⟨rfl, rfl, rfl, by decide +kernel, rfl, by decide +kernel, by decide +kernel⟩
abbrev s_Expression_neg : Stmt := inClass (top 14) 19
theorem sc_Expression_neg : FnScope ["self"] ["self"] (defScope s_Expression_neg) := ⟨rfl, rfl, rfl, by decide +kernel, rfl, by decide +kernel, by decide +kernel⟩
abbrev s_Expression_pos : Stmt := inClass (top 14) 20
theorem sc_Expression_pos : FnScope ["self"] ["self"] (defScope s_Expression_pos) := ⟨rfl, rfl, rfl, by decide +kernel, rfl, by decide +kernel, by decide +kernel⟩
abbrev s_Expression_invert : Stmt := inClass (top 14) 21
theorem sc_Expression_invert : FnScope ["self"] ["self"] (defScope s_Expression_invert) := ⟨rfl, rfl, rfl, by decide +kernel, rfl, by decide +kernel, by decide +kernel⟩
abbrev s_Expression_abs : Stmt := inClass (top 14) 22
theorem sc_Expression_abs : FnScope ["self"] ["self"] (defScope s_Expression_abs) := ⟨rfl, rfl, rfl, by decide +kernel, rfl, by decide +kernel, by decide +kernel⟩
abbrev s_Expression_rmul : Stmt := inClass (top 14) 23
theorem sc_Expression_rmul : FnScope ["self", "other"] ["self", "other"] (defScope s_Expression_rmul) := ⟨rfl, rfl, rfl, by decide +kernel, rfl, by decide +kernel, by decide +kernel⟩
abbrev s_Expression_pow : Stmt := inClass (top 14) 24
theorem sc_Expression_pow : FnScope ["self", "other"] ["self", "other"] (defScope s_Expression_pow) := ⟨rfl, rfl, rfl, by decide +kernel, rfl, by decide +kernel, by decide +kernel⟩
abbrev s_count_steps : Stmt := top 15
theorem sc_count_steps : FnScope ["program", "row"] ["program"] (defScope s_count_steps) := ⟨rfl, rfl, rfl, by decide +kernel, rfl, by decide +kernel, by decide +kernel⟩
abbrev s_binary : Stmt := top 16
theorem sc_binary : FnScope ["sign", "one", "other"] ["sign", "one", "other"] (defScope s_binary) := ⟨rfl, rfl, rfl, by decide +kernel, rfl, by decide +kernel, by decide +kernel⟩
abbrev s_unary : Stmt := top 17
theorem sc_unary : FnScope ["sign", "one"] ["sign", "one"] (defScope s_unary) := ⟨rfl, rfl, rfl, by decide +kernel, rfl, by decide +kernel, by decide +kernel⟩
abbrev s_repeated : Stmt := top 18
theorem sc_repeated : FnScope ["sign", "one", "many", "made", "turn"] ["sign", "one", "many"] (defScope s_repeated) := ⟨rfl, rfl, rfl, by decide +kernel, rfl, by decide +kernel, by decide +kernel⟩
abbrev s_Reader_init : Stmt := inClass (top 19) 0
theorem sc_Reader_init : FnScope ["self", "text"] ["self", "text"] (defScope s_Reader_init) := ⟨rfl, rfl, rfl, by decide +kernel, rfl, by decide +kernel, by decide +kernel⟩
abbrev s_Reader_whole : Stmt := inClass (top 19) 1
theorem sc_Reader_whole : FnScope ["self"] ["self"] (defScope s_Reader_whole) := ⟨rfl, rfl, rfl, by decide +kernel, rfl, by decide +kernel, by decide +kernel⟩
abbrev s_Reader_here : Stmt := inClass (top 19) 2
theorem sc_Reader_here : FnScope ["self"] ["self"] (defScope s_Reader_here) := ⟨rfl, rfl, rfl, by decide +kernel, rfl, by decide +kernel, by decide +kernel⟩
abbrev s_Reader_skip : Stmt := inClass (top 19) 3
theorem sc_Reader_skip : FnScope ["self", "some"] ["self", "some"] (defScope s_Reader_skip) := ⟨rfl, rfl, rfl, by decide +kernel, rfl, by decide +kernel, by decide +kernel⟩
abbrev s_Reader_letters : Stmt := inClass (top 19) 4
theorem sc_Reader_letters : FnScope ["self", "many", "begin"] ["self", "many"] (defScope s_Reader_letters) := ⟨rfl, rfl, rfl, by decide +kernel, rfl, by decide +kernel, by decide +kernel⟩
abbrev s_Reader_go_in : Stmt := inClass (top 19) 5
theorem sc_Reader_go_in : FnScope ["self", "sign", "many"] ["self", "sign", "many"] (defScope s_Reader_go_in) := ⟨rfl, rfl, rfl, by decide +kernel, rfl, by decide +kernel, by decide +kernel⟩
abbrev s_Reader_is_opened : Stmt := inClass (top 19) 6
theorem sc_Reader_is_opened : FnScope ["self", "letter", "word"] ["self"] (defScope s_Reader_is_opened) := ⟨rfl, rfl, rfl, by decide +kernel, rfl, by decide +kernel, by decide +kernel⟩
abbrev s_Reader_class_name : Stmt := inClass (top 19) 7
theorem sc_Reader_class_name : FnScope ["self", "begin"] ["self"] (defScope s_Reader_class_name) := ⟨rfl, rfl, rfl, by decide +kernel, rfl, by decide +kernel, by decide +kernel⟩
abbrev s_Reader_read_request : Stmt := inClass (top 19) 8
theorem sc_Reader_read_request : FnScope ["self", "name", "word"] ["self"] (defScope s_Reader_read_request) := ⟨rfl, rfl, rfl, by decide +kernel, rfl, by decide +kernel, by decide +kernel⟩
abbrev s_Reader_close : Stmt := inClass (top 19) 9
theorem sc_Reader_close : FnScope ["self", "sign", "many"] ["self"] (defScope s_Reader_close) := ⟨rfl, rfl, rfl, by decide +kernel, rfl, by decide +kernel, by decide +kernel⟩
abbrev s_Reader_read_sign : Stmt := inClass (top 19) 10
theorem sc_Reader_read_sign : FnScope ["self", "first"] ["self"] (defScope s_Reader_read_sign) := ⟨rfl, rfl, rfl, by decide +kernel, rfl, by decide +kernel, by decide +kernel⟩
abbrev s_law_bag : Stmt := top 21
theorem sc_law_bag : FnScope ["_law_script", "_law_at", "_law_cell", "_law_mixed", "_law_k", "_law_each"] ["_law_script", "_law_at"] (defScope s_law_bag) := ⟨rfl, rfl, rfl, by decide +kernel, rfl, by decide +kernel, by decide +kernel⟩
abbrev s_law_take : Stmt := top 22
theorem sc_law_take : FnScope ["_law_bag_here", "_law_many", "_law_digit"] ["_law_bag_here", "_law_many"] (defScope s_law_take) := ⟨rfl, rfl, rfl, by decide +kernel, rfl, by decide +kernel, by decide +kernel⟩
abbrev s_law_of : Stmt := top 23
theorem sc_law_of : FnScope ["_law_bag_here", "_law_some"] ["_law_bag_here", "_law_some"] (defScope s_law_of) := ⟨rfl, rfl, rfl, by decide +kernel, rfl, by decide +kernel, by decide +kernel⟩
abbrev s_law_joined : Stmt := top 24
theorem sc_law_joined : FnScope ["_law_sign", "_law_one", "_law_other"] ["_law_sign", "_law_one", "_law_other"] (defScope s_law_joined) := ⟨rfl, rfl, rfl, by decide +kernel, rfl, by decide +kernel, by decide +kernel⟩
abbrev s_law_marked : Stmt := top 25
theorem sc_law_marked : FnScope ["_law_sign", "_law_one"] ["_law_sign", "_law_one"] (defScope s_law_marked) := ⟨rfl, rfl, rfl, by decide +kernel, rfl, by decide +kernel, by decide +kernel⟩
abbrev s_law_long : Stmt := top 27
theorem sc_law_long : FnScope ["_law_bag_here", "_law_many", "_law_made", "_law_left"] ["_law_bag_here", "_law_many"] (defScope s_law_long) := ⟨rfl, rfl, rfl, by decide +kernel, rfl, by decide +kernel, by decide +kernel⟩
abbrev s_law_joined_right : Stmt := top 28
theorem sc_law_joined_right : FnScope ["_law_sign", "_law_one", "_law_other", "_law_many", "_law_made", "e"] ["_law_sign", "_law_one", "_law_other", "_law_many"] (defScope s_law_joined_right) := ⟨rfl, rfl, rfl, by decide +kernel, rfl, by decide +kernel, by decide +kernel⟩
abbrev s_law_marked_right : Stmt := top 29
theorem sc_law_marked_right : FnScope ["_law_sign", "_law_one", "_law_many", "_law_made", "e"] ["_law_sign", "_law_one", "_law_many"] (defScope s_law_marked_right) := ⟨rfl, rfl, rfl, by decide +kernel, rfl, by decide +kernel, by decide +kernel⟩
abbrev s_law_power : Stmt := top 30
theorem sc_law_power : FnScope ["_law_one", "_law_times"] ["_law_one", "_law_times"] (defScope s_law_power) := ⟨rfl, rfl, rfl, by decide +kernel, rfl, by decide +kernel, by decide +kernel⟩
abbrev s_law_times_right : Stmt := top 31
theorem sc_law_times_right : FnScope ["_law_one", "_law_times", "_law_many", "_law_made", "e", "_law_power_here"] ["_law_one", "_law_times", "_law_many"] (defScope s_law_times_right) := ⟨rfl, rfl, rfl, by decide +kernel, rfl, by decide +kernel, by decide +kernel⟩
abbrev s_law : Stmt := top 32
theorem sc_law : FnScope ["_law_script", "_law_at", "_law_bag_here", "_law_turn", "_law_size", "_law_whole", "_law_more", "_law_one", "_law_other", "_law_text", "_law_sign", "_law_least", "_law_near", "_law_times"] ["_law_script"] (defScope s_law) := ⟨rfl, rfl, rfl, by decide +kernel, rfl, by decide +kernel, by decide +kernel⟩
structure Ad where
  f_BadExpression_init : Addr
  fd_BadExpression_init : FuncData
  f_TooMany_init : Addr
  fd_TooMany_init : FuncData
  f_Expression_init : Addr
  fd_Expression_init : FuncData
  f_Expression_leaf : Addr
  fd_Expression_leaf : FuncData
  f_Expression_asked : Addr
  fd_Expression_asked : FuncData
  f_Expression_read : Addr
  fd_Expression_read : FuncData
  p_Expression_read : Addr
  f_Expression_len : Addr
  fd_Expression_len : FuncData
  f_Expression_str : Addr
  fd_Expression_str : FuncData
  f_Expression_eq : Addr
  fd_Expression_eq : FuncData
  f_Expression_add : Addr
  fd_Expression_add : FuncData
  f_Expression_sub : Addr
  fd_Expression_sub : FuncData
  f_Expression_mul : Addr
  fd_Expression_mul : FuncData
  f_Expression_floordiv : Addr
  fd_Expression_floordiv : FuncData
  f_Expression_and : Addr
  fd_Expression_and : FuncData
  f_Expression_or : Addr
  fd_Expression_or : FuncData
  f_Expression_xor : Addr
  fd_Expression_xor : FuncData
  f_Expression_lshift : Addr
  fd_Expression_lshift : FuncData
  f_Expression_rshift : Addr
  fd_Expression_rshift : FuncData
  f_Expression_neg : Addr
  fd_Expression_neg : FuncData
  f_Expression_pos : Addr
  fd_Expression_pos : FuncData
  f_Expression_invert : Addr
  fd_Expression_invert : FuncData
  f_Expression_abs : Addr
  fd_Expression_abs : FuncData
  f_Expression_rmul : Addr
  fd_Expression_rmul : FuncData
  f_Expression_pow : Addr
  fd_Expression_pow : FuncData
  f_count_steps : Addr
  fd_count_steps : FuncData
  f_binary : Addr
  fd_binary : FuncData
  f_unary : Addr
  fd_unary : FuncData
  f_repeated : Addr
  fd_repeated : FuncData
  f_Reader_init : Addr
  fd_Reader_init : FuncData
  f_Reader_whole : Addr
  fd_Reader_whole : FuncData
  f_Reader_here : Addr
  fd_Reader_here : FuncData
  f_Reader_skip : Addr
  fd_Reader_skip : FuncData
  f_Reader_letters : Addr
  fd_Reader_letters : FuncData
  f_Reader_go_in : Addr
  fd_Reader_go_in : FuncData
  f_Reader_is_opened : Addr
  fd_Reader_is_opened : FuncData
  f_Reader_class_name : Addr
  fd_Reader_class_name : FuncData
  f_Reader_read_request : Addr
  fd_Reader_read_request : FuncData
  f_Reader_close : Addr
  fd_Reader_close : FuncData
  f_Reader_read_sign : Addr
  fd_Reader_read_sign : FuncData
  f_law_bag : Addr
  fd_law_bag : FuncData
  f_law_take : Addr
  fd_law_take : FuncData
  f_law_of : Addr
  fd_law_of : FuncData
  f_law_joined : Addr
  fd_law_joined : FuncData
  f_law_marked : Addr
  fd_law_marked : FuncData
  f_law_long : Addr
  fd_law_long : FuncData
  f_law_joined_right : Addr
  fd_law_joined_right : FuncData
  f_law_marked_right : Addr
  fd_law_marked_right : FuncData
  f_law_power : Addr
  fd_law_power : FuncData
  f_law_times_right : Addr
  fd_law_times_right : FuncData
  f_law : Addr
  fd_law : FuncData
  C_Expression : Addr
  C_Reader : Addr
  C_BadExpression : Addr
  C_TooMany : Addr
  C_HeirsbackError : Addr
  t_MOST : Tok
  t_SMALL : Tok
  t_CAPITAL : Tok
  t_LONGEST : Tok
  t_LEAF : Tok
  t_ASKED : Tok
  a_UNARY_SIGNS : Addr
  t_DONE : Tok
structure Txt (K : PySem.W.Frag) (mg : Str → Option Value) (a : Ad) : Prop where
  F_BadExpression_init : Fun K "__init__" "BadExpression.__init__" s_BadExpression_init a.f_BadExpression_init a.fd_BadExpression_init
  b_BadExpression_init : Binds K a.fd_BadExpression_init ["self", "at"] []
  m_BadExpression_init : Meth K a.C_BadExpression "__init__" a.f_BadExpression_init
  F_TooMany_init : Fun K "__init__" "TooMany.__init__" s_TooMany_init a.f_TooMany_init a.fd_TooMany_init
  b_TooMany_init : Binds K a.fd_TooMany_init ["self", "what"] []
  m_TooMany_init : Meth K a.C_TooMany "__init__" a.f_TooMany_init
  F_Expression_init : Fun K "__init__" "Expression.__init__" s_Expression_init a.f_Expression_init a.fd_Expression_init
  b_Expression_init : Binds K a.fd_Expression_init ["self", "text", "program"] []
  m_Expression_init : Meth K a.C_Expression "__init__" a.f_Expression_init
  F_Expression_leaf : Fun K "leaf" "Expression.leaf" s_Expression_leaf a.f_Expression_leaf a.fd_Expression_leaf
  b_Expression_leaf : Binds K a.fd_Expression_leaf ["label", "name"] []
  sm_Expression_leaf : SMet K a.C_Expression (.type "type") "leaf" a.f_Expression_leaf
  F_Expression_asked : Fun K "asked" "Expression.asked" s_Expression_asked a.f_Expression_asked a.fd_Expression_asked
  b_Expression_asked : Binds K a.fd_Expression_asked ["name", "word"] []
  sm_Expression_asked : SMet K a.C_Expression (.type "type") "asked" a.f_Expression_asked
  F_Expression_read : Fun K "read" "Expression.read" s_Expression_read a.f_Expression_read a.fd_Expression_read
  b_Expression_read : Binds K a.fd_Expression_read ["cls", "text"] []
  cm_Expression_read : ClX.CMet K a.C_Expression (.type "type") "read" a.p_Expression_read a.f_Expression_read
  F_Expression_len : Fun K "__len__" "Expression.__len__" s_Expression_len a.f_Expression_len a.fd_Expression_len
  b_Expression_len : Binds K a.fd_Expression_len ["self"] []
  m_Expression_len : Meth K a.C_Expression "__len__" a.f_Expression_len
  F_Expression_str : Fun K "__str__" "Expression.__str__" s_Expression_str a.f_Expression_str a.fd_Expression_str
  b_Expression_str : Binds K a.fd_Expression_str ["self"] []
  m_Expression_str : Meth K a.C_Expression "__str__" a.f_Expression_str
  F_Expression_eq : Fun K "__eq__" "Expression.__eq__" s_Expression_eq a.f_Expression_eq a.fd_Expression_eq
  b_Expression_eq : Binds K a.fd_Expression_eq ["self", "other"] []
  m_Expression_eq : Meth K a.C_Expression "__eq__" a.f_Expression_eq
  F_Expression_add : Fun K "__add__" "Expression.__add__" s_Expression_add a.f_Expression_add a.fd_Expression_add
  b_Expression_add : Binds K a.fd_Expression_add ["self", "other"] []
  m_Expression_add : Meth K a.C_Expression "__add__" a.f_Expression_add
  F_Expression_sub : Fun K "__sub__" "Expression.__sub__" s_Expression_sub a.f_Expression_sub a.fd_Expression_sub
  b_Expression_sub : Binds K a.fd_Expression_sub ["self", "other"] []
  m_Expression_sub : Meth K a.C_Expression "__sub__" a.f_Expression_sub
  F_Expression_mul : Fun K "__mul__" "Expression.__mul__" s_Expression_mul a.f_Expression_mul a.fd_Expression_mul
  b_Expression_mul : Binds K a.fd_Expression_mul ["self", "other"] []
  m_Expression_mul : Meth K a.C_Expression "__mul__" a.f_Expression_mul
  F_Expression_floordiv : Fun K "__floordiv__" "Expression.__floordiv__" s_Expression_floordiv a.f_Expression_floordiv a.fd_Expression_floordiv
  b_Expression_floordiv : Binds K a.fd_Expression_floordiv ["self", "other"] []
  m_Expression_floordiv : Meth K a.C_Expression "__floordiv__" a.f_Expression_floordiv
  F_Expression_and : Fun K "__and__" "Expression.__and__" s_Expression_and a.f_Expression_and a.fd_Expression_and
  b_Expression_and : Binds K a.fd_Expression_and ["self", "other"] []
  m_Expression_and : Meth K a.C_Expression "__and__" a.f_Expression_and
  F_Expression_or : Fun K "__or__" "Expression.__or__" s_Expression_or a.f_Expression_or a.fd_Expression_or
  b_Expression_or : Binds K a.fd_Expression_or ["self", "other"] []
  m_Expression_or : Meth K a.C_Expression "__or__" a.f_Expression_or
  F_Expression_xor : Fun K "__xor__" "Expression.__xor__" s_Expression_xor a.f_Expression_xor a.fd_Expression_xor
  b_Expression_xor : Binds K a.fd_Expression_xor ["self", "other"] []
  m_Expression_xor : Meth K a.C_Expression "__xor__" a.f_Expression_xor
  F_Expression_lshift : Fun K "__lshift__" "Expression.__lshift__" s_Expression_lshift a.f_Expression_lshift a.fd_Expression_lshift
  b_Expression_lshift : Binds K a.fd_Expression_lshift ["self", "other"] []
  m_Expression_lshift : Meth K a.C_Expression "__lshift__" a.f_Expression_lshift
  F_Expression_rshift : Fun K "__rshift__" "Expression.__rshift__" s_Expression_rshift a.f_Expression_rshift a.fd_Expression_rshift
  b_Expression_rshift : Binds K a.fd_Expression_rshift ["self", "other"] []
  m_Expression_rshift : Meth K a.C_Expression "__rshift__" a.f_Expression_rshift
  F_Expression_neg : Fun K "__neg__" "Expression.__neg__" s_Expression_neg a.f_Expression_neg a.fd_Expression_neg
  b_Expression_neg : Binds K a.fd_Expression_neg ["self"] []
  m_Expression_neg : Meth K a.C_Expression "__neg__" a.f_Expression_neg
  F_Expression_pos : Fun K "__pos__" "Expression.__pos__" s_Expression_pos a.f_Expression_pos a.fd_Expression_pos
  b_Expression_pos : Binds K a.fd_Expression_pos ["self"] []
  m_Expression_pos : Meth K a.C_Expression "__pos__" a.f_Expression_pos
  F_Expression_invert : Fun K "__invert__" "Expression.__invert__" s_Expression_invert a.f_Expression_invert a.fd_Expression_invert
  b_Expression_invert : Binds K a.fd_Expression_invert ["self"] []
  m_Expression_invert : Meth K a.C_Expression "__invert__" a.f_Expression_invert
  F_Expression_abs : Fun K "__abs__" "Expression.__abs__" s_Expression_abs a.f_Expression_abs a.fd_Expression_abs
  b_Expression_abs : Binds K a.fd_Expression_abs ["self"] []
  m_Expression_abs : Meth K a.C_Expression "__abs__" a.f_Expression_abs
  F_Expression_rmul : Fun K "__rmul__" "Expression.__rmul__" s_Expression_rmul a.f_Expression_rmul a.fd_Expression_rmul
  b_Expression_rmul : Binds K a.fd_Expression_rmul ["self", "other"] []
  m_Expression_rmul : Meth K a.C_Expression "__rmul__" a.f_Expression_rmul
  F_Expression_pow : Fun K "__pow__" "Expression.__pow__" s_Expression_pow a.f_Expression_pow a.fd_Expression_pow
  b_Expression_pow : Binds K a.fd_Expression_pow ["self", "other"] []
  m_Expression_pow : Meth K a.C_Expression "__pow__" a.f_Expression_pow
  F_count_steps : Fun K "count_steps" "count_steps" s_count_steps a.f_count_steps a.fd_count_steps
  b_count_steps : Binds K a.fd_count_steps ["program"] []
  g_count_steps : mg "count_steps" = some (.ref a.f_count_steps)
  F_binary : Fun K "binary" "binary" s_binary a.f_binary a.fd_binary
  b_binary : Binds K a.fd_binary ["sign", "one", "other"] []
  g_binary : mg "binary" = some (.ref a.f_binary)
  F_unary : Fun K "unary" "unary" s_unary a.f_unary a.fd_unary
  b_unary : Binds K a.fd_unary ["sign", "one"] []
  g_unary : mg "unary" = some (.ref a.f_unary)
  F_repeated : Fun K "repeated" "repeated" s_repeated a.f_repeated a.fd_repeated
  b_repeated : Binds K a.fd_repeated ["sign", "one", "many"] []
  g_repeated : mg "repeated" = some (.ref a.f_repeated)
  F_Reader_init : Fun K "__init__" "Reader.__init__" s_Reader_init a.f_Reader_init a.fd_Reader_init
  b_Reader_init : Binds K a.fd_Reader_init ["self", "text"] []
  m_Reader_init : Meth K a.C_Reader "__init__" a.f_Reader_init
  F_Reader_whole : Fun K "whole" "Reader.whole" s_Reader_whole a.f_Reader_whole a.fd_Reader_whole
  b_Reader_whole : Binds K a.fd_Reader_whole ["self"] []
  m_Reader_whole : Meth K a.C_Reader "whole" a.f_Reader_whole
  F_Reader_here : Fun K "here" "Reader.here" s_Reader_here a.f_Reader_here a.fd_Reader_here
  b_Reader_here : Binds K a.fd_Reader_here ["self"] []
  m_Reader_here : Meth K a.C_Reader "here" a.f_Reader_here
  F_Reader_skip : Fun K "skip" "Reader.skip" s_Reader_skip a.f_Reader_skip a.fd_Reader_skip
  b_Reader_skip : Binds K a.fd_Reader_skip ["self", "some"] []
  m_Reader_skip : Meth K a.C_Reader "skip" a.f_Reader_skip
  F_Reader_letters : Fun K "letters" "Reader.letters" s_Reader_letters a.f_Reader_letters a.fd_Reader_letters
  b_Reader_letters : Binds K a.fd_Reader_letters ["self", "many"] []
  m_Reader_letters : Meth K a.C_Reader "letters" a.f_Reader_letters
  F_Reader_go_in : Fun K "go_in" "Reader.go_in" s_Reader_go_in a.f_Reader_go_in a.fd_Reader_go_in
  b_Reader_go_in : Binds K a.fd_Reader_go_in ["self", "sign", "many"] []
  m_Reader_go_in : Meth K a.C_Reader "go_in" a.f_Reader_go_in
  F_Reader_is_opened : Fun K "is_opened" "Reader.is_opened" s_Reader_is_opened a.f_Reader_is_opened a.fd_Reader_is_opened
  b_Reader_is_opened : Binds K a.fd_Reader_is_opened ["self"] []
  m_Reader_is_opened : Meth K a.C_Reader "is_opened" a.f_Reader_is_opened
  F_Reader_class_name : Fun K "class_name" "Reader.class_name" s_Reader_class_name a.f_Reader_class_name a.fd_Reader_class_name
  b_Reader_class_name : Binds K a.fd_Reader_class_name ["self"] []
  m_Reader_class_name : Meth K a.C_Reader "class_name" a.f_Reader_class_name
  F_Reader_read_request : Fun K "read_request" "Reader.read_request" s_Reader_read_request a.f_Reader_read_request a.fd_Reader_read_request
  b_Reader_read_request : Binds K a.fd_Reader_read_request ["self"] []
  m_Reader_read_request : Meth K a.C_Reader "read_request" a.f_Reader_read_request
  F_Reader_close : Fun K "close" "Reader.close" s_Reader_close a.f_Reader_close a.fd_Reader_close
  b_Reader_close : Binds K a.fd_Reader_close ["self"] []
  m_Reader_close : Meth K a.C_Reader "close" a.f_Reader_close
  F_Reader_read_sign : Fun K "read_sign" "Reader.read_sign" s_Reader_read_sign a.f_Reader_read_sign a.fd_Reader_read_sign
  b_Reader_read_sign : Binds K a.fd_Reader_read_sign ["self"] []
  m_Reader_read_sign : Meth K a.C_Reader "read_sign" a.f_Reader_read_sign
  F_law_bag : Fun K "_law_bag" "_law_bag" s_law_bag a.f_law_bag a.fd_law_bag
  b_law_bag : Binds K a.fd_law_bag ["_law_script", "_law_at"] []
  g_law_bag : mg "_law_bag" = some (.ref a.f_law_bag)
  F_law_take : Fun K "_law_take" "_law_take" s_law_take a.f_law_take a.fd_law_take
  b_law_take : Binds K a.fd_law_take ["_law_bag_here", "_law_many"] []
  g_law_take : mg "_law_take" = some (.ref a.f_law_take)
  F_law_of : Fun K "_law_of" "_law_of" s_law_of a.f_law_of a.fd_law_of
  b_law_of : Binds K a.fd_law_of ["_law_bag_here", "_law_some"] []
  g_law_of : mg "_law_of" = some (.ref a.f_law_of)
  F_law_joined : Fun K "_law_joined" "_law_joined" s_law_joined a.f_law_joined a.fd_law_joined
  b_law_joined : Binds K a.fd_law_joined ["_law_sign", "_law_one", "_law_other"] []
  g_law_joined : mg "_law_joined" = some (.ref a.f_law_joined)
  F_law_marked : Fun K "_law_marked" "_law_marked" s_law_marked a.f_law_marked a.fd_law_marked
  b_law_marked : Binds K a.fd_law_marked ["_law_sign", "_law_one"] []
  g_law_marked : mg "_law_marked" = some (.ref a.f_law_marked)
  F_law_long : Fun K "_law_long" "_law_long" s_law_long a.f_law_long a.fd_law_long
  b_law_long : Binds K a.fd_law_long ["_law_bag_here", "_law_many"] []
  g_law_long : mg "_law_long" = some (.ref a.f_law_long)
  F_law_joined_right : Fun K "_law_joined_right" "_law_joined_right" s_law_joined_right a.f_law_joined_right a.fd_law_joined_right
  b_law_joined_right : Binds K a.fd_law_joined_right ["_law_sign", "_law_one", "_law_other", "_law_many"] []
  g_law_joined_right : mg "_law_joined_right" = some (.ref a.f_law_joined_right)
  F_law_marked_right : Fun K "_law_marked_right" "_law_marked_right" s_law_marked_right a.f_law_marked_right a.fd_law_marked_right
  b_law_marked_right : Binds K a.fd_law_marked_right ["_law_sign", "_law_one", "_law_many"] []
  g_law_marked_right : mg "_law_marked_right" = some (.ref a.f_law_marked_right)
  F_law_power : Fun K "_law_power" "_law_power" s_law_power a.f_law_power a.fd_law_power
  b_law_power : Binds K a.fd_law_power ["_law_one", "_law_times"] []
  g_law_power : mg "_law_power" = some (.ref a.f_law_power)
  F_law_times_right : Fun K "_law_times_right" "_law_times_right" s_law_times_right a.f_law_times_right a.fd_law_times_right
  b_law_times_right : Binds K a.fd_law_times_right ["_law_one", "_law_times", "_law_many"] []
  g_law_times_right : mg "_law_times_right" = some (.ref a.f_law_times_right)
  F_law : Fun K "law" "law" s_law a.f_law a.fd_law
  b_law : Binds K a.fd_law ["_law_script"] []
  g_law : mg "law" = some (.ref a.f_law)
  g_Expression : mg "Expression" = some (.ref a.C_Expression)
  cl_Expression : Cls K a.C_Expression
  ty_Expression : TyC K a.C_Expression
  cr_Expression : ClX.CRead K a.C_Expression (.type "type")
  mk_Expression : Mk K a.C_Expression a.f_Expression_init
  ne_Expression : NeC K a.C_Expression
  sf_Expression : PySem.W.selfFirst K a.C_Expression = true
  no_Expression_text : NoAttr K a.C_Expression "text"
  no_Expression_program : NoAttr K a.C_Expression "program"
  g_Reader : mg "Reader" = some (.ref a.C_Reader)
  cl_Reader : Cls K a.C_Reader
  ty_Reader : TyC K a.C_Reader
  cr_Reader : ClX.CRead K a.C_Reader (.type "type")
  mk_Reader : Mk K a.C_Reader a.f_Reader_init
  no_Reader_text : NoAttr K a.C_Reader "text"
  no_Reader_at : NoAttr K a.C_Reader "at"
  no_Reader_nested : NoAttr K a.C_Reader "nested"
  no_Reader_rows : NoAttr K a.C_Reader "rows"
  g_BadExpression : mg "BadExpression" = some (.ref a.C_BadExpression)
  ty_BadExpression : PySem.W.typeIn K (.ref a.C_BadExpression) = some (.type "type")
  ic_BadExpression : PySem.W.isClsIn K a.C_BadExpression = true
  sb_BadExpression : PySem.W.subIn K (.ref a.C_BadExpression) (.type "BaseException") = some true
  ox_BadExpression : OexC K a.C_BadExpression
  xt_BadExpression : PySem.W.typeIn K (.ref a.f_BadExpression_init) = some (.type "function")
  no_BadExpression_at : PySem.W.findIn K (.ref a.C_BadExpression) "at" = some none
  g_TooMany : mg "TooMany" = some (.ref a.C_TooMany)
  ty_TooMany : PySem.W.typeIn K (.ref a.C_TooMany) = some (.type "type")
  ic_TooMany : PySem.W.isClsIn K a.C_TooMany = true
  sb_TooMany : PySem.W.subIn K (.ref a.C_TooMany) (.type "BaseException") = some true
  ox_TooMany : OexC K a.C_TooMany
  xt_TooMany : PySem.W.typeIn K (.ref a.f_TooMany_init) = some (.type "function")
  no_TooMany_what : PySem.W.findIn K (.ref a.C_TooMany) "what" = some none
  xf_TooMany : XfC K a.C_TooMany
  xc_TooMany : ExcC K a.C_TooMany
  g_HeirsbackError : mg "HeirsbackError" = some (.ref a.C_HeirsbackError)
  ty_HeirsbackError : PySem.W.typeIn K (.ref a.C_HeirsbackError) = some (.type "type")
  ic_HeirsbackError : PySem.W.isClsIn K a.C_HeirsbackError = true
  sb_HeirsbackError : PySem.W.subIn K (.ref a.C_HeirsbackError) (.type "BaseException") = some true
  g_MOST : mg "MOST" = some (.int 100 a.t_MOST)
  g_SMALL : mg "SMALL" = some (.str "abcdefghijklmnopqrstuvwxyz" a.t_SMALL)
  g_CAPITAL : mg "CAPITAL" = some (.str "ABCDEFGHIJKLMNOPQRSTUVWXYZ" a.t_CAPITAL)
  g_LONGEST : mg "LONGEST" = some (.int 8 a.t_LONGEST)
  g_LEAF : mg "LEAF" = some (.str "leaf" a.t_LEAF)
  g_ASKED : mg "ASKED" = some (.str "asked" a.t_ASKED)
  g_UNARY_SIGNS : mg "UNARY_SIGNS" = some (.ref a.a_UNARY_SIGNS)
  q_UNARY_SIGNS : ∀ H : Hp, SqT K H a.a_UNARY_SIGNS [.str "neg", .str "pos", .str "abs", .str "invert"]
  g_DONE : mg "DONE" = some (.str "done" a.t_DONE)
  xr_Expression_pow : PySem.W.findIn K (.ref a.C_Expression) "__rpow__" = some none
  xi_Expression_pow : PySem.W.findIn K (.type "int") "__pow__" = some (some (.builtin "int.__pow__"))
  xj_Expression_pow : PySem.W.findIn K (.type "int") "__rpow__" = some (some (.builtin "int.__rpow__"))
  xs_Expression_int : PySem.W.subIn K (.type "int") (.ref a.C_Expression) = some false
  xt_Expression_int : PySem.W.subIn K (.ref a.C_Expression) (.type "int") = some false
  su_tt : PySem.W.subIn K (.ref a.C_TooMany) (.ref a.C_TooMany) = some true
  su_th : PySem.W.subIn K (.ref a.C_TooMany) (.ref a.C_HeirsbackError) = some true
  xhd_hb : PySem.W.hasDictIn K a.C_HeirsbackError = true
  xhd_tm : PySem.W.hasDictIn K a.C_TooMany = true
  xe_str : PySem.W.subIn K (.ref a.C_Expression) (.type "str") = some false
  n_abs : mg "abs" = none
  n_bool : mg "bool" = none
  n_enumerate : mg "enumerate" = none
  n_int : mg "int" = none
  n_isinstance : mg "isinstance" = none
  n_len : mg "len" = none
  n_list : mg "list" = none
  n_max : mg "max" = none
  n_min : mg "min" = none
  n_range : mg "range" = none
  n_str : mg "str" = none
  n_tuple : mg "tuple" = none
local macro_rules | `(tactic| array_mem_dec) => `(tactic| with_reducible first
  | assumption | exact upd_same
  | (apply upd_new; assumption; array_mem_dec)
  | (apply upd_old; tlg_ne; array_mem_dec)
  | (apply same_at; assumption; array_mem_dec))
local macro_rules | `(tactic| tlg_ne) => `(tactic| with_reducible first
  | assumption | (apply Ne.symm; assumption)
  | (apply ne_new; assumption; array_mem_dec) | (apply ne_new'; assumption; array_mem_dec)
  | (apply ne_of; assumption; assumption; (with_unfolding_all (intro z; cases z; done))))
local macro_rules | `(tactic| decreasing_trivial_pre_omega) => `(tactic| with_reducible first
  | assumption | (apply sqL_of; array_mem_dec) | (apply sqT_of; array_mem_dec)
  | (apply Same.seq; assumption; decreasing_trivial_pre_omega) | (apply sqT_same; assumption; decreasing_trivial_pre_omega)
  | (apply sqL_new; assumption; decreasing_trivial_pre_omega) | (apply sqL_upd; tlg_ne; decreasing_trivial_pre_omega))
local macro_rules | `(tactic| kpt_turns) => `(tactic| with_reducible first
  | assumption | exact Same.refl _ | (apply same_ext; kpt_turns; assumption) | (apply same_mut; kpt_turns; keq_hits) | (apply same_step; assumption; kpt_turns))
local macro_rules | `(tactic| keq_hits) => `(tactic| with_reducible first | assumption | (apply same_none; assumption; keq_hits))
local macro_rules | `(tactic| sizeOf_list_dec) => `(tactic| first | (with_reducible assumption) | (with_reducible_and_instances omega) | (with_unfolding_all decide))
local macro_rules | `(tactic| array_get_dec) => `(tactic| first | (with_reducible assumption) | (apply sz_of; (with_unfolding_all simp); done) | (apply sz_of; omega) | (apply sz_lt; (with_unfolding_all simp); done) | (apply sz_lt; omega))
local macro_rules | `(tactic| keq_rows) => `(tactic| with_reducible first
  | apply rd_asgN | apply rd_seq | apply rd_parA | apply rd_par3A | apply rd_par2 | apply rd_par3 | apply rd_m1 | apply rd_isStr | apply rd_cval | apply rd_asg | apply rd_gname | apply rd_op | (show tVar _ _ _ _; refine rd_var (by with_unfolding_all rfl) ?_) | apply rd_c | apply rd_I0
  | apply rd_cons | apply rd_nil | apply rd_cb | apply rd_test | apply rd_bl | apply rd_fld | apply rd_drop | apply rd_ret | apply rd_retN | apply rd_next
  | apply rd_ifS | apply rd_un | apply rd_B | apply rd_and | apply rd_or | apply rd_not | apply rd_andV | apply rd_orV | apply rd_notV | apply rd_if
  | apply rd_int | apply rd_abs | apply rd_max | apply rd_min | apply rd_strS | apply rd_U
  | apply rd_eqTx | apply rd_neTx | apply rd_inTx | apply rd_notInTx | apply rd_fmt | (show FmtK (.str (tx _)) _ _; refine rd_fmtT (by omega) ?_) | apply rd_jsC | apply rd_jsN | (show JsK _ (tx _) _ (.str (tx _)) _ _; refine rd_JsK (by first | omega | (simp; done) | (simp; omega)) ?_) | (show rAddStr (.str (tx _)) (.str (tx _)) _ _; refine rd_addT (by first | omega | (simp; done) | (simp; omega)) ?_) | (show rLenStr [.str (tx _)] _ _; refine rd_lenTx (by omega) ?_)
  | (show rEq _ _ _ _; refine rd_eq (by with_unfolding_all rfl) ?_) | (show rNe _ _ _ _; refine rd_ne (by with_unfolding_all rfl) ?_) | apply rd_isNone | apply rd_notNone
  | (show rIxL _ _ _ _ _; refine rd_ixL (by decreasing_trivial_pre_omega) (by with_unfolding_all rfl) ?_) | (show rIxT _ _ _ _ _; refine rd_ixT (by decreasing_trivial_pre_omega) (by with_unfolding_all rfl) ?_)
  | (show rLenSeq _ _ _ _; refine rd_lenL (by decreasing_trivial_pre_omega) ?_) | (show rLenSeq _ _ _ _; refine rd_lenT (by decreasing_trivial_pre_omega) ?_)
  | (show rI _ _ _ _ _ _; refine rd_mod (by sizeOf_list_dec) ?_) | (show rI _ _ _ _ _ _; refine rd_div (by sizeOf_list_dec) (by sizeOf_list_dec) ?_) | (show rI _ _ _ _ _ _; refine rd_mulR (by sizeOf_list_dec) (by sizeOf_list_dec) ?_) | (show rI _ _ _ _ _ _; refine rd_mulL (by sizeOf_list_dec) (by sizeOf_list_dec) ?_) | (show rI _ _ _ _ _ _; refine rd_pow (by sizeOf_list_dec) ?_)
  | (show rSetL _ _ _ _ _; refine rd_setL (by array_mem_dec) (by with_unfolding_all rfl) ?_)
  | (show rSlL _ _ _ _ _ _; refine rd_slL (by decreasing_trivial_pre_omega) ?_) | apply rd_inSign | apply rd_notInSign | apply rd_tup | apply rd_lst | apply rd_sl | apply rd_noPart | apply rd_part | apply rd_isInt
  | apply rd_gsub | apply rd_gcons | apply rd_gnil | apply rd_call | apply rd_meth | apply rd_make | apply rd_smeth | apply rd_isC | apply rd_smethK | apply rd_cmeth | apply rd_cmethK
  | apply rd_bm | apply rd_bm0 | (show BmK _ _ _ _ _ _ _ _; refine rd_bmL (by array_mem_dec) ?_) | (show Bm0K _ _ _ _ _ _; refine rd_bm0L (by array_mem_dec) ?_) | apply rd_sfld | apply rd_aug | apply rd_rAdd | apply rd_brk | apply rd_cont
  | apply rd_for | apply rd_iList | (show IList _ _ _ _; refine rd_IList (by decreasing_trivial_pre_omega) ?_) | apply rd_iTup | (show ITup _ _ _ _; refine rd_ITup (by decreasing_trivial_pre_omega) ?_) | apply rd_iEnum | (show IEnum _ _ _ _; refine rd_IEnum (by decreasing_trivial_pre_omega) ?_) | apply rd_iRng1 | (show IRng1 _ _ _; refine rd_IRng1 (by sizeOf_list_dec) (by sizeOf_list_dec) ?_)
  | (show List.length _ ≤ sizeLine ∧ _; refine rd_new (by array_get_dec) ?_) | (show rLenStr _ _ _; refine rd_lenS (by array_get_dec) ?_) | (show rAddStr _ _ _ _; refine rd_addS (by array_get_dec) ?_) | (show rSlS _ _ _ _ _; refine rd_slS (by array_get_dec) ?_) | apply rd_lc | apply rd_yes | (show gTup _ _ _ _ _ _ _; refine rd_gtup (by decreasing_trivial_pre_omega) (by with_unfolding_all rfl) ?_) | (show tMakeL _ _ _ _ _ _ _ _; refine rd_makeL (by with_unfolding_all rfl) ?_))
local macro_rules | `(tactic| kas_types) => `(tactic| with_reducible first | apply rd_isi_int_int | apply rd_isi_int_bool | apply rd_isi_int_str | apply rd_isi_int_list | apply rd_isi_int_tuple | apply rd_isi_bool_int | apply rd_isi_bool_bool | apply rd_isi_bool_str | apply rd_isi_bool_list | apply rd_isi_bool_tuple | apply rd_isi_str_int | apply rd_isi_str_bool | apply rd_isi_str_str | apply rd_isi_str_list | apply rd_isi_str_tuple | (show rIsi _ _ _ _; refine rd_isi_list_int (by array_mem_dec) ?_) | (show rIsi _ _ _ _; refine rd_isi_list_bool (by array_mem_dec) ?_) | (show rIsi _ _ _ _; refine rd_isi_list_str (by array_mem_dec) ?_) | (show rIsi _ _ _ _; refine rd_isi_list_list (by array_mem_dec) ?_) | (show rIsi _ _ _ _; refine rd_isi_list_tuple (by array_mem_dec) ?_) | (show rIsi _ _ _ _; refine rd_isi_tuple_int (by array_mem_dec) ?_) | (show rIsi _ _ _ _; refine rd_isi_tuple_bool (by array_mem_dec) ?_) | (show rIsi _ _ _ _; refine rd_isi_tuple_str (by array_mem_dec) ?_) | (show rIsi _ _ _ _; refine rd_isi_tuple_list (by array_mem_dec) ?_) | (show rIsi _ _ _ _; refine rd_isi_tuple_tuple (by array_mem_dec) ?_) | apply rd_isi_NoneType_int | apply rd_isi_NoneType_bool | apply rd_isi_NoneType_str | apply rd_isi_NoneType_list | apply rd_isi_NoneType_tuple)
local macro_rules | `(tactic| lcg_src) => `(tactic| repeat keq_rows)

section
variable {P : Program} {w : World} {K : PySem.W.Frag} {mg : Str → Option Value} {base : Heap} {a : Ad}
/-- a draw: the bag's two numbers turn, the answer lies below n -/
def sp_law_take : Sp := fun vs H Q _ => ∃ (b : Addr) (d m n : Int), vs = [.ref b, .int n] ∧ H b = some (.lst [.int d, .int m]) ∧ 0 < n ∧ n < 2 ^ 100 ∧
  ∀ r d' m' : Int, 0 ≤ r → r < n → Q (.int r) (upd H b (.lst [.int d', .int m']))
theorem ok_law_take (T : Txt K mg a) : FnOk P w K mg base CX0 1 a.f_law_take a.fd_law_take ["_law_bag_here", "_law_many"]  sp_law_take := by
  refine T.F_law_take.ok sc_law_take (fun vs H Q E h => ?_) (fun cdv A outer s H vs Q E hr h => ?_)
  · obtain ⟨b, d, m, n, rfl, _⟩ := h
    rfl
  · obtain ⟨b, d, m, n, rfl, hb, h0, h1, k⟩ := h
    refine ⟨_, ((pss_cons (ps_if (pt_cmpR op_gt (pe_ix ix_list (pv 0) pe_int (fun _ _ => rfl)) pe_int (nomark _))
 (pss_cons (ps_set (i := 2) sc_law_take.nd rfl (Or.inl rfl) (pe_op op_mod (pe_callTy call_intI (by rfl) T.n_int (by decide +kernel) (pa_cons (pe_ix ix_list (pv 0) pe_int (fun _ _ => rfl)) pa_nil)) (pv 1)))
 (pss_cons (ps_asg (pe_op op_fdivW (pe_ix ix_list (pv 0) pe_int (fun _ _ => rfl)) (pv 1)) (pg_sub (pv 0) pe_int set_list))
 (pss_one (ps_ret (pv 2)))))
 pss_nil)
 (pss_cons (ps_asg (pe_op op_mod (pe_callTy call_intI (by rfl) T.n_int (by decide +kernel) (pa_cons (pe_op op_add (pe_op op_mul (pe_ix ix_list (pv 0) pe_int (fun _ _ => rfl)) pe_int) pe_int) pa_nil)) pe_int) (pg_sub (pv 0) pe_int set_list))
 (pss_one (ps_ret (pe_op op_mod (pe_op op_fdivW (pe_op op_mod (pe_callTy call_intI (by rfl) T.n_int (by decide +kernel) (pa_cons (pe_op op_mul (pe_op op_fdivW (pe_ix ix_list (pv 0) pe_int (fun _ _ => rfl)) pe_int) pe_int) pa_nil)) pe_int) pe_int) (pv 1))))))), ?_⟩
    try simp only [cxK]
    lcg_src
    refine ifD (fun c => ?_) (fun c => ?_)
    · lcg_src
      exact k _ _ _ (Int.emod_nonneg _ (by omega)) (Int.emod_lt_of_pos _ h0)
    · lcg_src
      exact k _ _ _ (Int.emod_nonneg _ (by omega)) (Int.emod_lt_of_pos _ h0)
theorem take_ok {F H : Hp} {b : Addr} {n : Int} {Q : VK} {E : XK} (hb : Bag F H b) (h0 : 0 < n) (h1 : n < 2 ^ 100) (k : ∀ (r : Nat) H', (r : Int) < n → Grow [b] F H F H' → Bag F H' b → Q (.int (r : Nat)) H') : sp_law_take [.ref b, .int n] H Q E := by
  obtain ⟨d, m, e⟩ := hb.hb
  refine ⟨b, d, m, n, rfl, e, h0, h1, fun r d' m' r0 r1 => ?_⟩
  obtain ⟨j, rfl⟩ := Int.eq_ofNat_of_zero_le r0
  obtain ⟨g, h⟩ := hb.turn d' m'
  exact k j _ r1 g h
/-- a new bag -/
def sp_law_bag (K : PySem.W.Frag) : Sp := fun vs H Q _ => ∃ (sc : Addr) (ns : List Int) (at_ : Int), vs = [.ref sc, .int at_] ∧ SqL K H sc (ns.map V.int) ∧ 0 ≤ at_ ∧ at_ < 100 ∧ ns.length ≤ 63 ∧
  ∀ (p : Addr) (d m : Int) (H' : Hp), Same H H' → H p = none → H' p = some (.lst [.int d, .int m]) → Q (.ref p) H'
theorem atI_ints {ns : List Int} {i : Int} (h0 : 0 ≤ i) (h1 : i < (ns.length : Int)) : ∃ z, atI (ns.map V.int) i = some (.int z) := by
  have e : i.toNat < ns.length := by omega
  refine ⟨ns[i.toNat], ?_⟩
  unfold atI ixN
  rw [List.length_map, if_pos h0, if_pos h1]
  simp [e]
theorem cut_ints {ns : List Int} {lo hi : Option Int} {i : Nat} {x : V} (h : (cutV (ns.map V.int) lo hi)[i]? = some x) : ∃ y, x = .int y := by
  have hm := List.mem_of_getElem? h
  unfold cutV at hm
  have hm := List.mem_of_mem_drop (List.mem_of_mem_take hm)
  obtain ⟨y, _, e⟩ := List.mem_map.mp hm
  exact ⟨y, e.symm⟩
theorem ok_law_bag (T : Txt K mg a) : FnOk P w K mg base CX0 1 a.f_law_bag a.fd_law_bag ["_law_script", "_law_at"]  (sp_law_bag K) := by
  refine T.F_law_bag.ok sc_law_bag (fun vs H Q E h => ?_) (fun cdv A outer s H vs Q E hr h => ?_)
  · obtain ⟨_, _, _, rfl, _⟩ := h
    rfl
  · obtain ⟨sc, ns, at_, rfl, hS, h0, h1, hl, k⟩ := h
    refine ⟨_, ((Evl.pss_cut (ps_set (i := 2) sc_law_bag.nd rfl (Or.inl rfl) (pe_ifExp (pt_cmpR op_lt (pv 1) (pe_callB call_lenSeq (by rfl) T.n_len (by decide +kernel) (pa_cons (pv 0) pa_nil)) (nomark _)) (pe_ix ix_list (pv 0) (pv 1) (fun _ _ => rfl)) pe_int))
 (pss_cons (ps_set (i := 3) sc_law_bag.nd rfl (Or.inl rfl) (pe_op op_add (pe_op op_mul pe_int (pv 1)) pe_int))
 (pss_cons (ps_for PassesOwn.never rfl (pi_enum (by rfl) T.n_enumerate (pa_cons (pe_slice sl_list (pv 0) po_none (po_some pe_int)) pa_nil)) (pg_tup rfl (pgs_cons (pg_name (i := 4) sc_law_bag.nd rfl (Or.inl rfl)) (pgs_cons (pg_name (i := 5) sc_law_bag.nd rfl (Or.inl rfl)) pgs_nil)))
 (pss_one (ps_set (i := 3) sc_law_bag.nd rfl (Or.inl rfl) (pe_op op_mod (pe_callTy call_intI (by rfl) T.n_int (by decide +kernel) (pa_cons (pe_op op_add (pe_op op_add (pe_op op_mul (pv 3) pe_int) (pe_op op_mod (pe_callTy call_intI (by rfl) T.n_int (by decide +kernel) (pa_cons (pv 5) pa_nil)) pe_int)) (pe_op op_mul pe_int (pv 4))) pa_nil)) pe_int))))
 (pss_one (ps_ret (pe_lst (pa_cons (pe_ifExp (pt_cmpR op_ge (pe_callB call_absI (by rfl) T.n_abs (by decide +kernel) (pa_cons (pv 2) pa_nil)) (pe_op op_pow pe_int pe_int) (nomark _)) (pe_callB call_absI (by rfl) T.n_abs (by decide +kernel) (pa_cons (pv 2) pa_nil)) pe_int) (pa_cons (pv 3) pa_nil))))))))), ?_⟩
    try simp only [cxK]
    refine rd_cut (fun σ' H' => H' = H ∧ ∃ z : Int, σ' = [some (.ref sc), some (.int at_), some (.int z), none, none, none]) ?_ ?_
    · lcg_src
      refine ifD (fun c => ?_) (fun c => ?_)
      · rw [List.length_map] at c
        obtain ⟨z, hz⟩ := atI_ints h0 c
        lcg_src
        refine rd_ixL hS hz ?_
        lcg_src
        exact ⟨rfl, z, rfl⟩
      · lcg_src
        exact ⟨rfl, 0, rfl⟩
    · rintro σ' H' ⟨rfl, z, rfl⟩
      lcg_src
      intro l hl
      lcg_src
      refine fk_enum (xs := cutV (ns.map V.int) none (some 63)) (fun i σ H2 => Same (upd H' l (.lst (cutV (ns.map V.int) none (some 63)))) H2 ∧ ∃ (m : Int) (u v : Option V), σ = [some (.ref sc), some (.int at_), some (.int z), some (.int m), u, v])
        ⟨Same.refl _, _, _, _, rfl⟩ (fun i σ H2 _ ⟨s2, _⟩ => sqL_of (s2 _ _ upd_same)) ?_ ?_
      · rintro i x T0 σ H2 hx hT ⟨s2, m, u, v, rfl⟩
        obtain ⟨y, rfl⟩ := cut_ints hx
        lcg_src
        exact ⟨s2.trans (same_new hT), _, _, _, rfl⟩
      · rintro σ H2 ⟨s2, m, u, v, rfl⟩
        lcg_src
        refine rd_pow ⟨by decide, by decide, by decide⟩ ?_
        lcg_src
        refine ifD (fun c => ?_) (fun c => ?_)
        all_goals
          lcg_src
          intro p hp
          have s3 : Same H' H2 := (same_new hl).trans s2
          exact k _ _ _ _ (s3.trans (same_new hp)) (s3.free hp) upd_same
theorem bag_ok {H : Hp} {sc : Addr} {ns : List Int} {at_ : Int} {Q : VK} {E : XK} (hS : SqL K H sc (ns.map V.int)) (h0 : 0 ≤ at_) (h1 : at_ < 100) (hl : ns.length ≤ 63) (k : ∀ b F H', Same H F → Bag F H' b → Q (.ref b) H') : sp_law_bag K [.ref sc, .int at_] H Q E := by
  refine ⟨sc, ns, at_, rfl, hS, h0, h1, hl, fun p d m H' s n e => k p H H' (Same.refl _) ⟨s, n, d, m, e⟩⟩
/-- one of a list's items -/
def sp_law_of (K : PySem.W.Frag) : Sp := fun vs H Q _ => ∃ (F : Hp) (b l : Addr) (xs : List V), vs = [.ref b, .ref l] ∧ Bag F H b ∧ SqL K F l xs ∧ 0 < xs.length ∧ xs.length < 1000 ∧
  ∀ (i : Nat) (x : V) H', xs[i]? = some x → Grow [b] F H F H' → Bag F H' b → Q x H'
theorem ok_law_of (T : Txt K mg a) : FnOk P w K mg base CX0 2 a.f_law_of a.fd_law_of ["_law_bag_here", "_law_some"]  (sp_law_of K) := by
  refine T.F_law_of.ok sc_law_of (fun vs H Q E h => ?_) (fun cdv A outer s H vs Q E hr h => ?_)
  · obtain ⟨_, _, _, _, rfl, _⟩ := h
    rfl
  · obtain ⟨F, b, l, xs, rfl, hb, hl, h0, h1, k⟩ := h
    have hlH : SqL K H l xs := hb.fh.seq hl
    refine ⟨_, ((pss_one (ps_ret (pe_ix ix_list (pv 1) (pe_call (ok_law_take T) hr rfl T.g_law_take T.F_law_take.kp T.b_law_take .nil pass0 (pa_cons (pv 0) (pa_cons (pe_callB call_lenSeq (by rfl) T.n_len (by decide +kernel) (pa_cons (pv 1) pa_nil)) pa_nil))) (fun _ _ => rfl))))), ?_⟩
    try simp only [cxK]
    lcg_src
    refine take_ok hb (by omega) (by omega) fun r H1 hr1 g1 hb1 => ?_
    have hr2 : r < xs.length := by omega
    have e : xs[r]? = some xs[r] := List.getElem?_eq_getElem hr2
    refine rd_ixL (hb1.fh.seq hl) (atI_at e) ?_
    exact k r _ H1 e g1 hb1
/-- .. of data -/
theorem of_dat {F H : Hp} {b : Addr} {v : V} {ds : List PyData} {Q : VK} {E : XK} (hb : Bag F H b) (hv : Dp K F v (.list ds)) (h0 : 0 < ds.length) (h1 : ds.length < 1000) (k : ∀ x d H', d ∈ ds → Dp K F x d → Grow [b] F H F H' → Bag F H' b → Q x H') : sp_law_of K [.ref b, v] H Q E := by
  obtain ⟨l, xs, rfl, hl, ha⟩ := hv.list_inv
  have hn := ha.length
  refine ⟨F, b, l, xs, rfl, hb, hl, by omega, by omega, fun i x H' e g h => ?_⟩
  obtain ⟨d, hd, hx⟩ := ha.get e
  exact k x d H' (List.mem_of_getElem? hd) hx g h
end
end Ex

namespace Ex
open PySem L2 Hk
local macro_rules | `(tactic| array_mem_dec) => `(tactic| with_reducible first
  | assumption | exact upd_same
  | (apply upd_new; assumption; array_mem_dec)
  | (apply upd_old; tlg_ne; array_mem_dec)
  | (apply same_at; assumption; array_mem_dec))
local macro_rules | `(tactic| tlg_ne) => `(tactic| with_reducible first
  | assumption | (apply Ne.symm; assumption)
  | (apply ne_new; assumption; array_mem_dec) | (apply ne_new'; assumption; array_mem_dec)
  | (apply ne_of; assumption; assumption; (with_unfolding_all (intro z; cases z; done))))
local macro_rules | `(tactic| decreasing_trivial_pre_omega) => `(tactic| with_reducible first
  | assumption | (apply sqL_of; array_mem_dec) | (apply sqT_of; array_mem_dec)
  | (apply Same.seq; assumption; decreasing_trivial_pre_omega) | (apply sqT_same; assumption; decreasing_trivial_pre_omega)
  | (apply sqL_new; assumption; decreasing_trivial_pre_omega) | (apply sqL_upd; tlg_ne; decreasing_trivial_pre_omega))
local macro_rules | `(tactic| kpt_turns) => `(tactic| with_reducible first
  | assumption | exact Same.refl _ | (apply same_ext; kpt_turns; assumption) | (apply same_mut; kpt_turns; keq_hits) | (apply same_step; assumption; kpt_turns))
local macro_rules | `(tactic| keq_hits) => `(tactic| with_reducible first | assumption | (apply same_none; assumption; keq_hits))
local macro_rules | `(tactic| sizeOf_list_dec) => `(tactic| first | (with_reducible assumption) | (with_reducible_and_instances omega) | (with_unfolding_all decide))
local macro_rules | `(tactic| array_get_dec) => `(tactic| first | (with_reducible assumption) | (apply sz_of; (with_unfolding_all simp); done) | (apply sz_of; omega) | (apply sz_lt; (with_unfolding_all simp); done) | (apply sz_lt; omega))
local macro_rules | `(tactic| keq_rows) => `(tactic| with_reducible first
  | apply rd_asgN | apply rd_seq | apply rd_parA | apply rd_par3A | apply rd_par2 | apply rd_par3 | apply rd_m1 | apply rd_isStr | apply rd_cval | apply rd_asg | apply rd_gname | apply rd_op | (show tVar _ _ _ _; refine rd_var (by with_unfolding_all rfl) ?_) | apply rd_c | apply rd_I0
  | apply rd_cons | apply rd_nil | apply rd_cb | apply rd_test | apply rd_bl | apply rd_fld | apply rd_drop | apply rd_ret | apply rd_retN | apply rd_next
  | apply rd_ifS | apply rd_un | apply rd_B | apply rd_and | apply rd_or | apply rd_not | apply rd_andV | apply rd_orV | apply rd_notV | apply rd_if
  | apply rd_int | apply rd_abs | apply rd_max | apply rd_min | apply rd_strS | apply rd_U
  | apply rd_eqTx | apply rd_neTx | apply rd_inTx | apply rd_notInTx | apply rd_fmt | (show FmtK (.str (tx _)) _ _; refine rd_fmtT (by omega) ?_) | apply rd_jsC | apply rd_jsN | (show JsK _ (tx _) _ (.str (tx _)) _ _; refine rd_JsK (by first | omega | (simp; done) | (simp; omega)) ?_) | (show rAddStr (.str (tx _)) (.str (tx _)) _ _; refine rd_addT (by first | omega | (simp; done) | (simp; omega)) ?_) | (show rLenStr [.str (tx _)] _ _; refine rd_lenTx (by omega) ?_)
  | (show rEq _ _ _ _; refine rd_eq (by with_unfolding_all rfl) ?_) | (show rNe _ _ _ _; refine rd_ne (by with_unfolding_all rfl) ?_) | apply rd_isNone | apply rd_notNone
  | (show rIxL _ _ _ _ _; refine rd_ixL (by decreasing_trivial_pre_omega) (by with_unfolding_all rfl) ?_) | (show rIxT _ _ _ _ _; refine rd_ixT (by decreasing_trivial_pre_omega) (by with_unfolding_all rfl) ?_)
  | (show rLenSeq _ _ _ _; refine rd_lenL (by decreasing_trivial_pre_omega) ?_) | (show rLenSeq _ _ _ _; refine rd_lenT (by decreasing_trivial_pre_omega) ?_)
  | (show rI _ _ _ _ _ _; refine rd_mod (by sizeOf_list_dec) ?_) | (show rI _ _ _ _ _ _; refine rd_div (by sizeOf_list_dec) (by sizeOf_list_dec) ?_) | (show rI _ _ _ _ _ _; refine rd_mulR (by sizeOf_list_dec) (by sizeOf_list_dec) ?_) | (show rI _ _ _ _ _ _; refine rd_mulL (by sizeOf_list_dec) (by sizeOf_list_dec) ?_) | (show rI _ _ _ _ _ _; refine rd_pow (by sizeOf_list_dec) ?_)
  | (show rSetL _ _ _ _ _; refine rd_setL (by array_mem_dec) (by with_unfolding_all rfl) ?_)
  | apply rd_inSign | apply rd_notInSign | apply rd_tupK | apply rd_lstK | apply rd_sl | apply rd_noPart | apply rd_part | apply rd_isInt
  | apply rd_gsub | apply rd_gcons | apply rd_gnil | apply rd_call | apply rd_meth | apply rd_make | apply rd_smeth | apply rd_isC | apply rd_smethK | apply rd_cmeth | apply rd_cmethK
  | apply rd_bm | apply rd_bm0 | (show BmK _ _ _ _ _ _ _ _; refine rd_bmL (by array_mem_dec) ?_) | (show Bm0K _ _ _ _ _ _; refine rd_bm0L (by array_mem_dec) ?_) | apply rd_sfld | apply rd_aug | apply rd_rAdd | apply rd_brk | apply rd_cont
  | apply rd_for | apply rd_iList | (show IList _ _ _ _; refine rd_IList (by decreasing_trivial_pre_omega) ?_) | apply rd_iTup | (show ITup _ _ _ _; refine rd_ITup (by decreasing_trivial_pre_omega) ?_) | apply rd_iEnum | (show IEnum _ _ _ _; refine rd_IEnum (by decreasing_trivial_pre_omega) ?_) | apply rd_iRng1 | (show IRng1 _ _ _; refine rd_IRng1 (by sizeOf_list_dec) (by sizeOf_list_dec) ?_)
  | (show rLenStr _ _ _; refine rd_lenS (by array_get_dec) ?_) | (show rAddStr _ _ _ _; refine rd_addS (by array_get_dec) ?_) | (show rSlS _ _ _ _ _; refine rd_slS (by array_get_dec) ?_) | apply rd_lc | apply rd_yes | (show gTup _ _ _ _ _ _ _; refine rd_gtup (by decreasing_trivial_pre_omega) (by with_unfolding_all rfl) ?_) | (show tMakeL _ _ _ _ _ _ _ _; refine rd_makeL (by with_unfolding_all rfl) ?_))
local macro_rules | `(tactic| kas_types) => `(tactic| with_reducible first | apply rd_isi_int_int | apply rd_isi_int_bool | apply rd_isi_int_str | apply rd_isi_int_list | apply rd_isi_int_tuple | apply rd_isi_bool_int | apply rd_isi_bool_bool | apply rd_isi_bool_str | apply rd_isi_bool_list | apply rd_isi_bool_tuple | apply rd_isi_str_int | apply rd_isi_str_bool | apply rd_isi_str_str | apply rd_isi_str_list | apply rd_isi_str_tuple | (show rIsi _ _ _ _; refine rd_isi_list_int (by array_mem_dec) ?_) | (show rIsi _ _ _ _; refine rd_isi_list_bool (by array_mem_dec) ?_) | (show rIsi _ _ _ _; refine rd_isi_list_str (by array_mem_dec) ?_) | (show rIsi _ _ _ _; refine rd_isi_list_list (by array_mem_dec) ?_) | (show rIsi _ _ _ _; refine rd_isi_list_tuple (by array_mem_dec) ?_) | (show rIsi _ _ _ _; refine rd_isi_tuple_int (by array_mem_dec) ?_) | (show rIsi _ _ _ _; refine rd_isi_tuple_bool (by array_mem_dec) ?_) | (show rIsi _ _ _ _; refine rd_isi_tuple_str (by array_mem_dec) ?_) | (show rIsi _ _ _ _; refine rd_isi_tuple_list (by array_mem_dec) ?_) | (show rIsi _ _ _ _; refine rd_isi_tuple_tuple (by array_mem_dec) ?_) | apply rd_isi_NoneType_int | apply rd_isi_NoneType_bool | apply rd_isi_NoneType_str | apply rd_isi_NoneType_list | apply rd_isi_NoneType_tuple)
local macro_rules | `(tactic| lcg_src) => `(tactic| repeat keq_rows)

theorem colon_tx : Str.ofString ":" = tx [58] := by decide +kernel
theorem dot_tx : Str.ofString "." = tx [46] := by decide +kernel
theorem open_tx : Str.ofString "(" = tx [40] := by decide +kernel
theorem close_tx : Str.ofString ")" = tx [41] := by decide +kernel
theorem space_tx : Str.ofString " " = tx [32] := by decide +kernel
/-! ### an expression's data -/
def fE (t : List Nat) (q : Addr) : List (Str × V) := [("text", .str (tx t)), ("program", .ref q)]
theorem fE_text {t : List Nat} {q : Addr} : (fE t q).lookup ("text" : Str) = some (.str (tx t)) := by unfold fE; rw [List.lookup_cons_self]
theorem fE_program {t : List Nat} {q : Addr} : (fE t q).lookup ("program" : Str) = some (.ref q) := by
  unfold fE
  rw [List.lookup_cons, List.lookup_cons_self]
  have e : (("program" : Str) == "text") = false := by decide +kernel
  rw [e]
theorem fE_no {t : List Nat} {q : Addr} {m : Str} (h1 : (m == ("text" : Str)) = false) (h2 : (m == ("program" : Str)) = false) : (fE t q).lookup m = none := by
  unfold fE
  rw [List.lookup_cons, h1, List.lookup_cons, h2]
  rfl
theorem fE_put1 {v : V} : putF "text" v [] = [(("text" : Str), v)] := rfl
theorem fE_put2 {t : List Nat} {q : Addr} : putF "program" (.ref q) [(("text" : Str), V.str (tx t))] = fE t q := by
  show (if ("text" : Str) = "program" then _ else (("text" : Str), V.str (tx t)) :: putF "program" (.ref q) []) = _
  rw [if_neg (by decide +kernel)]
  rfl
/-- an expression at p, in the frozen part -/
structure ExprAt (a : Ad) (K : PySem.W.Frag) (F : Hp) (p : Addr) (t : List Nat) (rows : List Row) : Prop where
  ex : ∃ dx q xs, F p = some (.ins a.C_Expression dx (fE t q)) ∧ F q = some (.lst xs) ∧ DpAll K F xs (rows.map Row.dat)
theorem ExprAt.mono {a : Ad} {K : PySem.W.Frag} {H H' : Hp} {p : Addr} {t : List Nat} {rows : List Row} (h : ExprAt a K H p t rows) (e : Same H H') : ExprAt a K H' p t rows :=
  let ⟨dx, q, xs, h1, h2, h3⟩ := h.ex
  ⟨dx, q, xs, e _ _ h1, e _ _ h2, h3.mono e⟩
section
variable {P : Program} {w : World} {K : PySem.W.Frag} {mg : Str → Option Value} {base : Heap} {a : Ad} {H : Hp} {Q : VK} {p dx q : Addr} {t : List Nat}
theorem fldE_text (T : Txt K mg a) (e : H p = some (.ins a.C_Expression dx (fE t q))) (k : Q (.str (tx t)) H) : FldK K "text" (.ref p) H Q := rd_fldK e T.cl_Expression T.no_Expression_text fE_text k
theorem fldE_program (T : Txt K mg a) (e : H p = some (.ins a.C_Expression dx (fE t q))) (k : Q (.ref q) H) : FldK K "program" (.ref p) H Q := rd_fldK e T.cl_Expression T.no_Expression_program fE_program k
end
local macro_rules | `(tactic| lcg_sub) => `(tactic| with_reducible first | refine fldE_text (by assumption) (by array_mem_dec) ?_ | refine fldE_program (by assumption) (by array_mem_dec) ?_)
local macro_rules | `(tactic| lcg_off) => `(tactic| repeat (first | keq_rows | lcg_sub))
section
variable {P : Program} {w : World} {K : PySem.W.Frag} {mg : Str → Option Value} {base : Heap} {a : Ad}
theorem ok_BadExpression_init (T : Txt K mg a) : FnOk P w K mg base CX0 1 a.f_BadExpression_init a.fd_BadExpression_init ["self", "at"]  (sp_err1 a.C_BadExpression "at") := by
  refine T.F_BadExpression_init.ok sc_BadExpression_init (fun vs H Q E h => ?_) (fun cdv A outer s H vs Q E hr h => ?_)
  · obtain ⟨_, _, rfl, _⟩ := h
    rfl
  · obtain ⟨e, v, rfl, he, k⟩ := h
    refine ⟨_, ((pss_one (ps_ost (pv 0) (pv 1)))), ?_⟩
    try simp only [cxK]
    refine rd_ost ?_
    lcg_off
    exact ⟨e, _, rfl, T.ox_BadExpression, T.no_BadExpression_at, .inl ⟨he, fun dx h1 h2 => k dx h1 h2⟩⟩
theorem ok_TooMany_init (T : Txt K mg a) : FnOk P w K mg base CX0 1 a.f_TooMany_init a.fd_TooMany_init ["self", "what"]  (sp_err1 a.C_TooMany "what") := by
  refine T.F_TooMany_init.ok sc_TooMany_init (fun vs H Q E h => ?_) (fun cdv A outer s H vs Q E hr h => ?_)
  · obtain ⟨_, _, rfl, _⟩ := h
    rfl
  · obtain ⟨e, v, rfl, he, k⟩ := h
    refine ⟨_, ((pss_one (ps_ost (pv 0) (pv 1)))), ?_⟩
    try simp only [cxK]
    refine rd_ost ?_
    lcg_off
    exact ⟨e, _, rfl, T.ox_TooMany, T.no_TooMany_what, .inl ⟨he, fun dx h1 h2 => k dx h1 h2⟩⟩
def sp_Expression_init (a : Ad) (K : PySem.W.Frag) : Sp := fun vs H Q _ => ∃ (p dx q0 : Addr) (t : List Nat) (xs : List V), vs = [.ref p, .str (tx t), .ref q0] ∧ H p = some (.ins a.C_Expression dx []) ∧ SqL K H q0 xs ∧ q0 ≠ p ∧
  ∀ l, H l = none → Q .non (upd (upd (upd H p (.ins a.C_Expression dx [("text", .str (tx t))])) l (.lst xs)) p (.ins a.C_Expression dx (fE t l)))
theorem ok_Expression_init (T : Txt K mg a) : FnOk P w K mg base CX0 1 a.f_Expression_init a.fd_Expression_init ["self", "text", "program"]  (sp_Expression_init a K) := by
  refine T.F_Expression_init.ok sc_Expression_init (fun vs H Q E h => ?_) (fun cdv A outer s H vs Q E hr h => ?_)
  · obtain ⟨_, _, _, _, _, rfl, _⟩ := h
    rfl
  · obtain ⟨p, dx, q0, t, xs, rfl, hp, hq, npq, k⟩ := h
    refine ⟨_, ((pss_cons (ps_fld (pv 0) (pv 1) rfl)
 (pss_one (ps_fld (pv 0) (pe_callTy call_listOf (by rfl) T.n_list (by decide +kernel) (pa_cons (pv 2) pa_nil)) rfl)))), ?_⟩
    try simp only [cxK]
    lcg_off
    refine rd_sfldK hp T.cl_Expression T.no_Expression_text (by show 0 < 1000; decide) ?_
    rw [fE_put1]
    lcg_off
    refine rd_listL (sqL_upd npq hq) fun l hl => ?_
    have npl : p ≠ l := ne_of_none upd_same hl
    lcg_off
    refine rd_sfldK (by array_mem_dec) T.cl_Expression T.no_Expression_program (by show 1 < 1000; decide) ?_
    rw [fE_put2]
    exact k l (by rw [upd_ne npl.symm] at hl; exact hl)
/-- an expression is made -/
theorem make_expr {a : Ad} {K : PySem.W.Frag} {E : XK} {F H : Hp} {Q : VK} {t : List Nat} {q0 : Addr} {xs : List V} {rows : List Row} {o : HO} (fh : Same F H) (hq : SqL K H q0 xs) (h0 : H q0 = some o) (hr : DpAll K F xs (rows.map Row.dat))
    (k : ∀ F' H' p, Grow [] F H F' H' → ExprAt a K F' p t rows → Q (.ref p) H') :
    ∀ x dx, H x = none → H dx = none → dx ≠ x → sp_Expression_init a K [.ref x, .str (tx t), .ref q0] (upd (upd H dx (.own x)) x (.ins a.C_Expression dx [])) (fun v H2 => v = .non ∧ Q (.ref x) H2) E := by
  intro x dx nx ndx ne
  have h1 : (upd H dx (.own x)) x = none := upd_oldN ne.symm nx
  have nq : q0 ≠ x := ne_of_none h0 nx
  refine ⟨x, dx, q0, t, xs, rfl, upd_same, sqL_new h1 (sqL_new ndx hq), nq, fun l hl => ⟨rfl, ?_⟩⟩
  have nl : l ≠ x := fun e => by rw [e, upd_same] at hl; cases hl
  rw [upd_ne nl] at hl
  have nld : l ≠ dx := fun e => by rw [e, upd_same] at hl; cases hl
  rw [upd_ne nld] at hl
  have g1 := (Grow.refl (S := []) fh).new (o := .own x) ndx
  have g2 := g1.newO (o := .ins a.C_Expression dx []) h1
  have fx : upd F dx (.own x) x = none := upd_oldN ne.symm (fh.free nx)
  have g3 := g2.mut (o := .ins a.C_Expression dx [("text", .str (tx t))]) fx (.inr nx)
  have hl3 : upd (upd (upd H dx (.own x)) x (.ins a.C_Expression dx [])) x (.ins a.C_Expression dx [("text", .str (tx t))]) l = none := by rw [upd_ne nl, upd_ne nl, upd_ne nld]; exact hl
  have g4 := g3.new (o := .lst xs) hl3
  have fx4 : upd (upd F dx (.own x)) l (.lst xs) x = none := upd_oldN nl.symm fx
  have g5 := g4.mut (o := .ins a.C_Expression dx (fE t l)) fx4 (.inr nx)
  have g6 := g5.frz upd_same fx4 nx
  refine k _ _ x g6 ⟨dx, l, xs, upd_same, upd_old nl upd_same, hr.mono g6.ff⟩
/-- what a def leaves: its value stands in the frozen part -/
def Post (F H : Hp) (Q : VK) (R : Hp → V → Prop) : Prop := ∀ F' H' v, Grow [] F H F' H' → R F' v → Q v H'
def IsE (a : Ad) (K : PySem.W.Frag) (t : List Nat) (rows : List Row) (F : Hp) (v : V) : Prop := ∃ p, v = .ref p ∧ ExprAt a K F p t rows
/-- an error with one field leaves -/
def Err (C : Addr) (f : Str) (v : V) (H : Hp) (E : XK) : Prop := ∀ d H', Same H H' → H d = none → H' d = some (.xd [(f, v)]) → E (.ref C) (some d) H'
theorem Err.of {C : Addr} {f : Str} {v : V} {H H1 : Hp} {E : XK} (h : Err C f v H E) (s : Same H H1) : Err C f v H1 E := fun d H' s' n e => h d H' (s.trans s') (s.free n) e
def sp_Expression_leaf (a : Ad) (K : PySem.W.Frag) : Sp := fun vs H Q _ => ∃ (F : Hp) (l n : List Nat), vs = [.str (tx l), .str (tx n)] ∧ Same F H ∧ l.length ≤ 100 ∧ n.length ≤ 100 ∧ Post F H Q (IsE a K (l ++ 58 :: n) [.leaf l n])
theorem ok_Expression_leaf (T : Txt K mg a) : FnOk P w K mg base CX0 3 a.f_Expression_leaf a.fd_Expression_leaf ["label", "name"]  (sp_Expression_leaf a K) := by
  refine T.F_Expression_leaf.ok sc_Expression_leaf (fun vs H Q E h => ?_) (fun cdv A outer s H vs Q E hr h => ?_)
  · obtain ⟨_, _, _, rfl, _⟩ := h
    rfl
  · obtain ⟨F, l, n, rfl, fh, hl, hn, k⟩ := h
    refine ⟨_, ((pss_one (ps_ret (pe_make T.mk_Expression (ok_Expression_init T) hr rfl T.g_Expression T.b_Expression_init .nil pass0 (pa_cons (pe_joined (.cons (pe_fmt (pv 0)) (.cons pe_str (.cons (pe_fmt (pv 1)) .nil)))) (pa_cons (pe_lst (pa_cons (pe_tup (pa_cons (pe_glob (v := .str "leaf") rfl T.g_LEAF ⟨_, rfl⟩) (pa_cons (pv 0) (pa_cons (pv 1) pa_nil)))) pa_nil)) pa_nil)))))), ?_⟩
    try simp only [cxK, colon_tx, empty_tx]
    lcg_off
    refine newTD (K := K) fh (flAll_mk (ds := [.str "leaf", .str (tx l), .str (tx n)]) rfl) fun F1 H1 r g1 hr0 e1 => ?_
    lcg_off
    refine newL g1.fh fun F2 H2 q g2 hq0 e2 => ?_
    lcg_off
    have e : ([] ++ l ++ [58] ++ n : List Nat) = l ++ 58 :: n := by simp
    rw [e]
    refine make_expr g2.fh (sqL_of (g2.fh _ _ e2)) (g2.fh _ _ e2) (rows := [.leaf l n]) (.one (e1.mono g2.ff)) fun F3 H3 p g3 he => ?_
    exact k F3 H3 _ ((g1.trans g2).trans g3) ⟨p, rfl, he⟩
def sp_Expression_asked (a : Ad) (K : PySem.W.Frag) : Sp := fun vs H Q _ => ∃ (F : Hp) (n wd : List Nat), vs = [.str (tx n), .str (tx wd)] ∧ Same F H ∧ n.length ≤ 100 ∧ wd.length ≤ 100 ∧ Post F H Q (IsE a K (n ++ 46 :: wd) [.asked wd n])
theorem ok_Expression_asked (T : Txt K mg a) : FnOk P w K mg base CX0 3 a.f_Expression_asked a.fd_Expression_asked ["name", "word"]  (sp_Expression_asked a K) := by
  refine T.F_Expression_asked.ok sc_Expression_asked (fun vs H Q E h => ?_) (fun cdv A outer s H vs Q E hr h => ?_)
  · obtain ⟨_, _, _, rfl, _⟩ := h
    rfl
  · obtain ⟨F, n, wd, rfl, fh, hn, hl, k⟩ := h
    refine ⟨_, ((pss_one (ps_ret (pe_make T.mk_Expression (ok_Expression_init T) hr rfl T.g_Expression T.b_Expression_init .nil pass0 (pa_cons (pe_joined (.cons (pe_fmt (pv 0)) (.cons pe_str (.cons (pe_fmt (pv 1)) .nil)))) (pa_cons (pe_lst (pa_cons (pe_tup (pa_cons (pe_glob (v := .str "asked") rfl T.g_ASKED ⟨_, rfl⟩) (pa_cons (pv 1) (pa_cons (pv 0) pa_nil)))) pa_nil)) pa_nil)))))), ?_⟩
    try simp only [cxK, dot_tx, empty_tx]
    lcg_off
    refine newTD (K := K) fh (flAll_mk (ds := [.str "asked", .str (tx wd), .str (tx n)]) rfl) fun F1 H1 r g1 hr0 e1 => ?_
    lcg_off
    refine newL g1.fh fun F2 H2 q g2 hq0 e2 => ?_
    lcg_off
    have e : ([] ++ n ++ [46] ++ wd : List Nat) = n ++ 46 :: wd := by simp
    rw [e]
    refine make_expr g2.fh (sqL_of (g2.fh _ _ e2)) (g2.fh _ _ e2) (rows := [.asked wd n]) (.one (e1.mono g2.ff)) fun F3 H3 p g3 he => ?_
    exact k F3 H3 _ ((g1.trans g2).trans g3) ⟨p, rfl, he⟩
theorem leaf_ne {r : Row} : ∃ v, r.vals[0]? = some v ∧ scal v (.str "leaf") = true ∧ (!decide (v = V.str "leaf")) = r.step := by
  cases r with
  | leaf l n => exact ⟨_, rfl, rfl, by simp [Row.step]⟩
  | asked l n => exact ⟨_, rfl, rfl, by
      have : ¬ (Str.ofString "asked" = Str.ofString "leaf") := by decide +kernel
      simp [Row.step, this]⟩
  | done s k => exact ⟨_, rfl, rfl, by
      have : ¬ (Str.ofString "done" = Str.ofString "leaf") := by decide +kernel
      simp [Row.step, this]⟩
theorem row_sign {r : Row} : r.vals[1]? = some (.str (tx r.sign)) := by cases r <;> rfl
theorem atI_of {xs : List V} {i : Nat} {v : V} (h : xs[i]? = some v) : atI xs (i : Int) = some v := atI_at h
def sp_count_steps (K : PySem.W.Frag) : Sp := fun vs H Q _ => ∃ (F : Hp) (v : V) (rows : List Row), vs = [v] ∧ Same F H ∧ Dp K F v (.list (rows.map Row.dat)) ∧ rows.length ≤ 10000 ∧ Post F H Q (fun _ v => v = .int (nSteps rows : Nat))
theorem ok_count_steps (T : Txt K mg a) : FnOk P w K mg base CX0 1 a.f_count_steps a.fd_count_steps ["program"]  (sp_count_steps K) := by
  refine T.F_count_steps.ok sc_count_steps (fun vs H Q E h => ?_) (fun cdv A outer s H vs Q E hr h => ?_)
  · obtain ⟨_, _, _, rfl, _⟩ := h
    rfl
  · obtain ⟨F, v, rows, rfl, fh, hv, hl, k⟩ := h
    obtain ⟨l, xs, rfl, hs, ha⟩ := hv.list_inv
    refine ⟨_, ((pss_one (ps_ret (pe_callB call_lenSeq (by rfl) T.n_len (by decide +kernel) (pa_cons (pe_lc (own := [("row", 1)]) (g := gName 1) rfl sc_count_steps.nd (pi_list (pv 0)) (blkOk_by (own := [("row", 1)]) (N := ["program", "row"]) (sc := defScope s_count_steps) (by decide +kernel)) (fun _ _ _ _ _ => (pg_name (i := 1) sc_count_steps.nd rfl (Or.inl rfl))) (fun _ _ _ _ _ => (pts_one (pt_cmpR op_ne (pe_ix (ix_tupK (K := K)) (pv 1) pe_int (fun _ _ => rfl)) (pe_glob (v := .str "leaf") rfl T.g_LEAF ⟨_, rfl⟩) (nomark _)))) (fun _ _ _ _ _ => (pv 1))) pa_nil))))), ?_⟩
    try simp only [cxK]
    lcg_off
    refine lcDat (rows := rows) (ds := Row.dat) Row.step Row.dat fh hs ha (by omega) (fun x r F1 H1 hr1 hx g1 Done Kept hd hk => ?_) fun F' H' D acc g' hD h1 ha' => ?_
    · obtain ⟨q, rfl, hq⟩ := Row.inv hx
      obtain ⟨v0, hv0, hsc, hst⟩ := leaf_ne (r := r)
      lcg_off
      refine ⟨rfl, ?_⟩
      lcg_off
      refine rd_ixT (sqT_same g1.fh hq) (atI_of hv0) ?_
      lcg_off
      refine rd_ne hsc ?_
      lcg_off
      rw [hst]
      refine ifB (fun c => ?_) (fun c => ?_)
      · lcg_off
        exact hk F1 H1 _ (Grow.refl g1.fh) c (Row.mk hq)
      · exact hd F1 H1 (Grow.refl g1.fh) c
    · lcg_off
      refine rd_lenL (sqL_of h1.h) ?_
      rw [ha'.length, List.length_map]
      exact k F' H' _ g' rfl
def sp_Expression_len (a : Ad) (K : PySem.W.Frag) : Sp := fun vs H Q _ => ∃ (F : Hp) (p : Addr) (t : List Nat) (rows : List Row), vs = [.ref p] ∧ Same F H ∧ ExprAt a K F p t rows ∧ rows.length ≤ 10000 ∧ Post F H Q (fun _ v => v = .int (nSteps rows : Nat))
theorem ok_Expression_len (T : Txt K mg a) : FnOk P w K mg base CX0 1 a.f_Expression_len a.fd_Expression_len ["self"]  (sp_Expression_len a K) := by
  refine T.F_Expression_len.ok sc_Expression_len (fun vs H Q E h => ?_) (fun cdv A outer s H vs Q E hr h => ?_)
  · obtain ⟨_, _, _, _, rfl, _⟩ := h
    rfl
  · obtain ⟨F, p, t, rows, rfl, fh, hE, hl, k⟩ := h
    obtain ⟨dx, l, xs, hp, hq, ha⟩ := hE.ex
    have hp' := fh _ _ hp
    refine ⟨_, ((pss_one (ps_ret (pe_callB call_lenSeq (by rfl) T.n_len (by decide +kernel) (pa_cons (pe_lc (own := [("row", 1)]) (g := gName 1) rfl sc_Expression_len.nd (pi_list (pe_fld (pv 0) rfl)) (blkOk_by (own := [("row", 1)]) (N := ["self", "row"]) (sc := defScope s_Expression_len) (by decide +kernel)) (fun _ _ _ _ _ => (pg_name (i := 1) sc_Expression_len.nd rfl (Or.inl rfl))) (fun _ _ _ _ _ => (pts_one (pt_cmpR op_ne (pe_ix (ix_tupK (K := K)) (pv 1) pe_int (fun _ _ => rfl)) (pe_glob (v := .str "leaf") rfl T.g_LEAF ⟨_, rfl⟩) (nomark _)))) (fun _ _ _ _ _ => (pv 1))) pa_nil))))), ?_⟩
    try simp only [cxK]
    lcg_off
    refine lcDat (rows := rows) (ds := Row.dat) Row.step Row.dat fh (sqL_of hq) ha (by omega) (fun x r F1 H1 hr1 hx g1 Done Kept hd hk => ?_) fun F' H' D acc g' hD h1 ha' => ?_
    · obtain ⟨q, rfl, hq⟩ := Row.inv hx
      obtain ⟨v0, hv0, hsc, hst⟩ := leaf_ne (r := r)
      lcg_off
      refine ⟨rfl, ?_⟩
      lcg_off
      refine rd_ixT (sqT_same g1.fh hq) (atI_of hv0) ?_
      lcg_off
      refine rd_ne hsc ?_
      lcg_off
      rw [hst]
      refine ifB (fun c => ?_) (fun c => ?_)
      · lcg_off
        exact hk F1 H1 _ (Grow.refl g1.fh) c (Row.mk hq)
      · exact hd F1 H1 (Grow.refl g1.fh) c
    · lcg_off
      refine rd_lenL (sqL_of h1.h) ?_
      rw [ha'.length, List.length_map]
      exact k F' H' _ g' rfl
/-- a list of data, made by the program -/
def LstD (K : PySem.W.Frag) (ds : List PyData) (F : Hp) (v : V) : Prop := ∃ p xs, v = .ref p ∧ F p = some (.lst xs) ∧ DpAll K F xs ds
theorem LstD.dp {K : PySem.W.Frag} {F : Hp} {v : V} {ds : List PyData} (h : LstD K ds F v) : Dp K F v (.list ds) := by
  obtain ⟨p, xs, rfl, h1, h2⟩ := h
  exact .lst (sqL_of h1) h2
theorem LstD.mono {K : PySem.W.Frag} {F F' : Hp} {v : V} {ds : List PyData} (h : LstD K ds F v) (e : Same F F') : LstD K ds F' v := by
  obtain ⟨p, xs, rfl, h1, h2⟩ := h
  exact ⟨p, xs, rfl, e _ _ h1, h2.mono e⟩
def sp_Expression_str (a : Ad) (K : PySem.W.Frag) : Sp := fun vs H Q _ => ∃ (F : Hp) (p : Addr) (t : List Nat) (rows : List Row), vs = [.ref p] ∧ Same F H ∧ ExprAt a K F p t rows ∧ Q (.str (tx t)) H
theorem ok_Expression_str (T : Txt K mg a) : FnOk P w K mg base CX0 1 a.f_Expression_str a.fd_Expression_str ["self"]  (sp_Expression_str a K) := by
  refine T.F_Expression_str.ok sc_Expression_str (fun vs H Q E h => ?_) (fun cdv A outer s H vs Q E hr h => ?_)
  · obtain ⟨_, _, _, _, rfl, _⟩ := h
    rfl
  · obtain ⟨F, p, t, rows, rfl, fh, hE, k⟩ := h
    obtain ⟨dx, l, xs, hp, hq, ha⟩ := hE.ex
    have hp' := fh _ _ hp
    refine ⟨_, ((pss_one (ps_ret (pe_callTy call_strS (by rfl) T.n_str (by decide +kernel) (pa_cons (pe_fld (pv 0) rfl) pa_nil))))), ?_⟩
    try simp only [cxK]
    lcg_off
    exact k
def NotE (K : PySem.W.Frag) (a : Ad) (H : Hp) (y : V) : Prop := ∃ t, TyOf K H y (.type t) ∧ PySem.W.subIn K (.type t) (.ref a.C_Expression) = some false
def sp_Expression_eq (a : Ad) (K : PySem.W.Frag) : Sp := fun vs H Q _ => ∃ (F : Hp) (p : Addr) (y : V) (t : List Nat) (rows : List Row), vs = [.ref p, y] ∧ Same F H ∧ ExprAt a K F p t rows ∧
  ((∃ p2 t2 rows2, y = .ref p2 ∧ ExprAt a K F p2 t2 rows2 ∧ Q (.bl (decide (t = t2))) H) ∨ (NotE K a H y ∧ Q (.bl false) H))
theorem ok_Expression_eq (T : Txt K mg a) : FnOk P w K mg base CX0 1 a.f_Expression_eq a.fd_Expression_eq ["self", "other"]  (sp_Expression_eq a K) := by
  refine T.F_Expression_eq.ok sc_Expression_eq (fun vs H Q E h => ?_) (fun cdv A outer s H vs Q E hr h => ?_)
  · obtain ⟨_, _, _, _, _, rfl, _⟩ := h
    rfl
  · obtain ⟨F, p, y, t, rows, rfl, fh, hE, k⟩ := h
    obtain ⟨dx, l, xs, hp, hq, ha⟩ := hE.ex
    have hp' := fh _ _ hp
    refine ⟨_, ((pss_one (ps_ret (pe_and (pe_callB call_isi (by rfl) T.n_isinstance (by decide +kernel) (pa_cons (pv 1) (pa_cons (pe_glob (v := .ref _) rfl T.g_Expression rfl) pa_nil))) (pe_one (pe_cmpR op_eq (pe_fld (pv 0) rfl) (pe_fld (pv 1) rfl) (nomark _))))))), ?_⟩
    try simp only [cxK]
    rcases k with ⟨p2, t2, rows2, rfl, h2, k⟩ | ⟨⟨ty, ht, hs⟩, k⟩
    · obtain ⟨dx2, l2, xs2, hp2, hq2, ha2⟩ := h2.ex
      have hp2' := fh _ _ hp2
      lcg_off
      refine rd_isi_own T.ty_Expression hp2' ?_
      lcg_off
      refine iteT ?_
      lcg_off
      exact k
    · lcg_off
      refine rd_isi (.own _) (.base ht) (T.ty_Expression.kit hs rfl) ?_
      lcg_off
      refine iteF ?_
      exact k
end
end Ex

namespace Ex
open PySem L2 Hk
local macro_rules | `(tactic| array_mem_dec) => `(tactic| with_reducible first
  | assumption | exact upd_same
  | (apply upd_new; assumption; array_mem_dec)
  | (apply upd_old; tlg_ne; array_mem_dec)
  | (apply same_at; assumption; array_mem_dec))
local macro_rules | `(tactic| tlg_ne) => `(tactic| with_reducible first
  | assumption | (apply Ne.symm; assumption)
  | (apply ne_new; assumption; array_mem_dec) | (apply ne_new'; assumption; array_mem_dec)
  | (apply ne_of; assumption; assumption; (with_unfolding_all (intro z; cases z; done))))
local macro_rules | `(tactic| decreasing_trivial_pre_omega) => `(tactic| with_reducible first
  | assumption | (apply sqL_of; array_mem_dec) | (apply sqT_of; array_mem_dec)
  | (apply Same.seq; assumption; decreasing_trivial_pre_omega) | (apply sqT_same; assumption; decreasing_trivial_pre_omega)
  | (apply sqL_new; assumption; decreasing_trivial_pre_omega) | (apply sqL_upd; tlg_ne; decreasing_trivial_pre_omega))
local macro_rules | `(tactic| kpt_turns) => `(tactic| with_reducible first
  | assumption | exact Same.refl _ | (apply same_ext; kpt_turns; assumption) | (apply same_mut; kpt_turns; keq_hits) | (apply same_step; assumption; kpt_turns))
local macro_rules | `(tactic| keq_hits) => `(tactic| with_reducible first | assumption | (apply same_none; assumption; keq_hits))
local macro_rules | `(tactic| sizeOf_list_dec) => `(tactic| first | (with_reducible assumption) | (with_reducible_and_instances omega) | (with_unfolding_all decide))
local macro_rules | `(tactic| array_get_dec) => `(tactic| first | (with_reducible assumption) | (apply sz_of; (with_unfolding_all simp); done) | (apply sz_of; omega) | (apply sz_lt; (with_unfolding_all simp); done) | (apply sz_lt; omega))
local macro_rules | `(tactic| keq_rows) => `(tactic| with_reducible first
  | apply rd_asgN | apply rd_seq | apply rd_parA | apply rd_par3A | apply rd_par2 | apply rd_par3 | apply rd_m1 | apply rd_isStr | apply rd_cval | apply rd_asg | apply rd_gname | apply rd_op | (show tVar _ _ _ _; refine rd_var (by with_unfolding_all rfl) ?_) | apply rd_c | apply rd_I0
  | apply rd_cons | apply rd_nil | apply rd_cb | apply rd_test | apply rd_bl | apply rd_fld | apply rd_drop | apply rd_ret | apply rd_retN | apply rd_next
  | apply rd_ifS | apply rd_un | apply rd_B | apply rd_and | apply rd_or | apply rd_not | apply rd_andV | apply rd_orV | apply rd_notV | apply rd_if
  | apply rd_int | apply rd_abs | apply rd_max | apply rd_min | apply rd_strS | apply rd_U
  | apply rd_eqTx | apply rd_neTx | apply rd_inTx | apply rd_notInTx | apply rd_fmt | (show FmtK (.str (tx _)) _ _; refine rd_fmtT (by omega) ?_) | apply rd_jsC | apply rd_jsN | (show JsK _ (tx _) _ (.str (tx _)) _ _; refine rd_JsK (by first | omega | (simp; done) | (simp; omega)) ?_) | (show rAddStr (.str (tx _)) (.str (tx _)) _ _; refine rd_addT (by first | omega | (simp; done) | (simp; omega)) ?_) | (show rLenStr [.str (tx _)] _ _; refine rd_lenTx (by omega) ?_)
  | (show rEq _ _ _ _; refine rd_eq (by with_unfolding_all rfl) ?_) | (show rNe _ _ _ _; refine rd_ne (by with_unfolding_all rfl) ?_) | apply rd_isNone | apply rd_notNone
  | (show rIxL _ _ _ _ _; refine rd_ixL (by decreasing_trivial_pre_omega) (by with_unfolding_all rfl) ?_) | (show rIxT _ _ _ _ _; refine rd_ixT (by decreasing_trivial_pre_omega) (by with_unfolding_all rfl) ?_)
  | (show rLenSeq _ _ _ _; refine rd_lenL (by decreasing_trivial_pre_omega) ?_) | (show rLenSeq _ _ _ _; refine rd_lenT (by decreasing_trivial_pre_omega) ?_)
  | (show rI _ _ _ _ _ _; refine rd_mod (by sizeOf_list_dec) ?_) | (show rI _ _ _ _ _ _; refine rd_div (by sizeOf_list_dec) (by sizeOf_list_dec) ?_) | (show rI _ _ _ _ _ _; refine rd_mulR (by sizeOf_list_dec) (by sizeOf_list_dec) ?_) | (show rI _ _ _ _ _ _; refine rd_mulL (by sizeOf_list_dec) (by sizeOf_list_dec) ?_) | (show rI _ _ _ _ _ _; refine rd_pow (by sizeOf_list_dec) ?_)
  | (show rSetL _ _ _ _ _; refine rd_setL (by array_mem_dec) (by with_unfolding_all rfl) ?_)
  | apply rd_inSign | apply rd_notInSign | apply rd_tupK | apply rd_lstK | apply rd_sl | apply rd_noPart | apply rd_part | apply rd_isInt
  | apply rd_gsub | apply rd_gcons | apply rd_gnil | apply rd_call | apply rd_meth | apply rd_make | apply rd_smeth | apply rd_isC | apply rd_smethK | apply rd_cmeth | apply rd_cmethK
  | apply rd_bm | apply rd_bm0 | (show BmK _ _ _ _ _ _ _ _; refine rd_bmL (by array_mem_dec) ?_) | (show Bm0K _ _ _ _ _ _; refine rd_bm0L (by array_mem_dec) ?_) | apply rd_sfld | apply rd_aug | apply rd_rAdd | apply rd_brk | apply rd_cont
  | apply rd_for | apply rd_iList | (show IList _ _ _ _; refine rd_IList (by decreasing_trivial_pre_omega) ?_) | apply rd_iTup | (show ITup _ _ _ _; refine rd_ITup (by decreasing_trivial_pre_omega) ?_) | apply rd_iEnum | (show IEnum _ _ _ _; refine rd_IEnum (by decreasing_trivial_pre_omega) ?_) | apply rd_iRng1 | (show IRng1 _ _ _; refine rd_IRng1 (by sizeOf_list_dec) (by sizeOf_list_dec) ?_)
  | (show rLenStr _ _ _; refine rd_lenS (by array_get_dec) ?_) | (show rAddStr _ _ _ _; refine rd_addS (by array_get_dec) ?_) | (show rSlS _ _ _ _ _; refine rd_slS (by array_get_dec) ?_) | apply rd_lc | apply rd_yes | (show gTup _ _ _ _ _ _ _; refine rd_gtup (by decreasing_trivial_pre_omega) (by with_unfolding_all rfl) ?_) | (show tMakeL _ _ _ _ _ _ _ _; refine rd_makeL (by with_unfolding_all rfl) ?_))
local macro_rules | `(tactic| kas_types) => `(tactic| with_reducible first | apply rd_isi_int_int | apply rd_isi_int_bool | apply rd_isi_int_str | apply rd_isi_int_list | apply rd_isi_int_tuple | apply rd_isi_bool_int | apply rd_isi_bool_bool | apply rd_isi_bool_str | apply rd_isi_bool_list | apply rd_isi_bool_tuple | apply rd_isi_str_int | apply rd_isi_str_bool | apply rd_isi_str_str | apply rd_isi_str_list | apply rd_isi_str_tuple | (show rIsi _ _ _ _; refine rd_isi_list_int (by array_mem_dec) ?_) | (show rIsi _ _ _ _; refine rd_isi_list_bool (by array_mem_dec) ?_) | (show rIsi _ _ _ _; refine rd_isi_list_str (by array_mem_dec) ?_) | (show rIsi _ _ _ _; refine rd_isi_list_list (by array_mem_dec) ?_) | (show rIsi _ _ _ _; refine rd_isi_list_tuple (by array_mem_dec) ?_) | (show rIsi _ _ _ _; refine rd_isi_tuple_int (by array_mem_dec) ?_) | (show rIsi _ _ _ _; refine rd_isi_tuple_bool (by array_mem_dec) ?_) | (show rIsi _ _ _ _; refine rd_isi_tuple_str (by array_mem_dec) ?_) | (show rIsi _ _ _ _; refine rd_isi_tuple_list (by array_mem_dec) ?_) | (show rIsi _ _ _ _; refine rd_isi_tuple_tuple (by array_mem_dec) ?_) | apply rd_isi_NoneType_int | apply rd_isi_NoneType_bool | apply rd_isi_NoneType_str | apply rd_isi_NoneType_list | apply rd_isi_NoneType_tuple)
local macro_rules | `(tactic| lcg_src) => `(tactic| repeat keq_rows)

local macro_rules | `(tactic| lcg_sub) => `(tactic| with_reducible first | refine fldE_text (by assumption) (by array_mem_dec) ?_ | refine fldE_program (by assumption) (by array_mem_dec) ?_)
local macro_rules | `(tactic| lcg_off) => `(tactic| repeat (first | keq_rows | lcg_sub))
section
variable {P : Program} {w : World} {K : PySem.W.Frag} {mg : Str → Option Value} {base : Heap} {a : Ad}
/-- a pair of texts -/
def PairR (F : Hp) (x : V) (p : List Nat × List Nat) : Prop := ∃ q, x = .ref q ∧ F q = some (.tup [.str (tx p.1), .str (tx p.2)])
theorem PairR.mono {F F' : Hp} {x : V} {p : List Nat × List Nat} (e : Same F F') (h : PairR F x p) : PairR F' x p := let ⟨q, h1, h2⟩ := h; ⟨q, h1, e _ _ h2⟩
theorem PairR.dp {K : PySem.W.Frag} {F : Hp} {x : V} {p : List Nat × List Nat} (h : PairR F x p) : Dp K F x (pairD p) := by
  obtain ⟨q, rfl, h⟩ := h
  exact .tup (sqT_of h) (.cons (.str _) (.cons (.str _) .nil))
theorem pairs_dp {K : PySem.W.Frag} {F : Hp} : ∀ {xs : List V} {ps : List (List Nat × List Nat)}, AllR (PairR F) xs ps → DpAll K F xs (ps.map pairD)
  | [], [], _ => .nil
  | x :: xs, p :: ps, h => .cons (h.at_ 0 x p rfl rfl).dp (pairs_dp ⟨by have := h.len; simpa using this, fun i y q h1 h2 => h.at_ (i + 1) y q (by simpa using h1) (by simpa using h2)⟩)
  | [], _ :: _, h => by have := h.len; simp at this
  | _ :: _, [], h => by have := h.len; simp at this
/-- a list of pairs of texts -/
def PairsL (ps : List (List Nat × List Nat)) (F : Hp) (v : V) : Prop := ∃ p xs, v = .ref p ∧ F p = some (.lst xs) ∧ AllR (PairR F) xs ps
theorem PairsL.mono {ps : List (List Nat × List Nat)} {F F' : Hp} {v : V} (h : PairsL ps F v) (e : Same F F') : PairsL ps F' v := by
  obtain ⟨p, xs, rfl, h1, h2⟩ := h
  exact ⟨p, xs, rfl, e _ _ h1, h2.mono fun x q z => z.mono e⟩
theorem PairsL.dp {K : PySem.W.Frag} {ps : List (List Nat × List Nat)} {F : Hp} {v : V} (h : PairsL ps F v) : Dp K F v (.list (ps.map pairD)) := by
  obtain ⟨p, xs, rfl, h1, h2⟩ := h
  exact .lst (sqL_of h1) (pairs_dp h2)
/-! ### operators -/
def btext (s t1 t2 : List Nat) : List Nat := 40 :: (t1 ++ 32 :: (s ++ 32 :: (t2 ++ [41])))
def utext (s t : List Nat) : List Nat := s ++ 40 :: (t ++ [41])
def BinPost (a : Ad) (K : PySem.W.Frag) (s : List Nat) (F H : Hp) (t1 : List Nat) (r1 : List Row) (t2 : List Nat) (r2 : List Row) (Q : VK) (E : XK) : Prop :=
  (nSteps r1 + nSteps r2 < 100 → Post F H Q (IsE a K (btext s t1 t2) (r1 ++ r2 ++ [.done s 2]))) ∧ (100 ≤ nSteps r1 + nSteps r2 → Err a.C_TooMany "what" (.str "steps") H E)
def UnPost (a : Ad) (K : PySem.W.Frag) (s : List Nat) (F H : Hp) (t : List Nat) (r : List Row) (Q : VK) (E : XK) : Prop :=
  (nSteps r < 100 → Post F H Q (IsE a K (utext s t) (r ++ [.done s 1]))) ∧ (100 ≤ nSteps r → Err a.C_TooMany "what" (.str "steps") H E)
def sp_binary (a : Ad) (K : PySem.W.Frag) : Sp := fun vs H Q E => ∃ (F : Hp) (s : List Nat) (p1 p2 : Addr) (t1 t2 : List Nat) (r1 r2 : List Row), vs = [.str (tx s), .ref p1, .ref p2] ∧ Same F H ∧ ExprAt a K F p1 t1 r1 ∧ ExprAt a K F p2 t2 r2 ∧
  s.length ≤ 100 ∧ t1.length ≤ 10000 ∧ t2.length ≤ 10000 ∧ r1.length ≤ 1000 ∧ r2.length ≤ 1000 ∧ BinPost a K s F H t1 r1 t2 r2 Q E
theorem ok_binary (T : Txt K mg a) : FnOk P w K mg base (CX P w) 3 a.f_binary a.fd_binary ["sign", "one", "other"]  (sp_binary a K) := by
  refine T.F_binary.okX sc_binary (fun vs H Q E h => ?_) (fun cdv A outer s H vs Q E hr h => ?_)
  · obtain ⟨_, _, _, _, _, _, _, _, rfl, _⟩ := h
    rfl
  · obtain ⟨F, sg, p1, p2, t1, t2, r1, r2, rfl, fh, hE1, hE2, hsl, ht1, ht2, hr1, hr2, k1, k2⟩ := h
    obtain ⟨dx1, q1, xs1, hp1, hq1, ha1⟩ := hE1.ex
    obtain ⟨dx2, q2, xs2, hp2, hq2, ha2⟩ := hE2.ex
    have hl1 : xs1.length = r1.length := by simpa using ha1.length
    have hl2 : xs2.length = r2.length := by simpa using ha2.length
    have hp1' := fh _ _ hp1
    have hp2' := fh _ _ hp2
    refine ⟨_, ((pss_cons (ps_if (pt_cmpR op_ge (pe_op op_add (pe_call (ok_count_steps T) (hr.mono (by decide)) rfl T.g_count_steps T.F_count_steps.kp T.b_count_steps .nil pass0 (pa_cons (pe_fld (pv 1) rfl) pa_nil)) (pe_call (ok_count_steps T) (hr.mono (by decide)) rfl T.g_count_steps T.F_count_steps.kp T.b_count_steps .nil pass0 (pa_cons (pe_fld (pv 2) rfl) pa_nil))) (pe_glob (v := .int 100) rfl T.g_MOST ⟨_, rfl⟩) (nomark _))
 (pss_one (ps_raiseO rfl (takes_of rfl rfl rfl rfl) T.ox_TooMany T.m_TooMany_init.at_ T.xt_TooMany (ok_TooMany_init T) hr T.b_TooMany_init pass0 rfl T.g_TooMany (pa_cons pe_str pa_nil)))
 pss_nil)
 (pss_one (ps_ret (pe_make T.mk_Expression (ok_Expression_init T) hr rfl T.g_Expression T.b_Expression_init .nil pass0 (pa_cons (pe_joined (.cons pe_str (.cons (pe_fmt (pe_fld (pv 1) rfl)) (.cons pe_str (.cons (pe_fmt (pv 0)) (.cons pe_str (.cons (pe_fmt (pe_fld (pv 2) rfl)) (.cons pe_str .nil)))))))) (pa_cons (pe_op op_cat (pe_op op_cat (pe_fld (pv 1) rfl) (pe_fld (pv 2) rfl)) (pe_lst (pa_cons (pe_tup (pa_cons (pe_glob (v := .str "done") rfl T.g_DONE ⟨_, rfl⟩) (pa_cons (pv 0) (pa_cons pe_int pa_nil)))) pa_nil))) pa_nil))))))), ?_⟩
    try simp only [cxK, open_tx, close_tx, space_tx, empty_tx]
    lcg_off
    refine ⟨F, .ref q1, r1, rfl, fh, .lst (sqL_of hq1) ha1, by omega, fun F1 H1 v g1 e1 => ?_⟩
    subst e1
    have hp1' := g1.same _ _ hp1'
    have hp2' := g1.same _ _ hp2'
    lcg_off
    refine ⟨F1, .ref q2, r2, rfl, g1.fh, .lst (sqL_of (g1.ff _ _ hq2)) (ha2.mono g1.ff), by omega, fun F2 H2 v g2 e2 => ?_⟩
    subst e2
    have g2 := g1.trans g2
    have hp1' := g2.same _ _ (fh _ _ hp1)
    have hp2' := g2.same _ _ (fh _ _ hp2)
    lcg_off
    refine ifD (fun c => ?_) (fun c => ?_)
    · refine rd_raiseO ?_
      lcg_off
      refine rd_err1 fun d H' h1 h2 h3 => ?_
      exact k2 (by omega) d H' (g2.same.trans h2) (g2.same.free h1) h3
    · lcg_off
      refine new_cat g2.fh (g2.fh _ _ (g2.ff _ _ hq1)) (g2.fh _ _ (g2.ff _ _ hq2)) (by omega) fun F3 H3 l3 g3 n3 e3 => ?_
      lcg_off
      refine newTD (K := K) g3.fh (flAll_mk (ds := [.str "done", .str (tx sg), .int 2]) rfl) fun F4 H4 T4 g4 n4 e4 => ?_
      lcg_off
      refine newL g4.fh fun F5 H5 l5 g5 n5 e5 => ?_
      lcg_off
      refine new_cat g5.fh (g5.fh _ _ (g5.ff _ _ (g4.ff _ _ e3))) (g5.fh _ _ e5) (by simp; omega) fun F6 H6 l6 g6 n6 e6 => ?_
      lcg_off
      have eT : ([] ++ [40] ++ t1 ++ [32] ++ sg ++ [32] ++ t2 ++ [41] : List Nat) = btext sg t1 t2 := by simp [btext]
      rw [eT]
      have g26 := ((g3.trans g4).trans g5).trans g6
      refine make_expr g6.fh (sqL_of (g6.fh _ _ e6)) (g6.fh _ _ e6) (rows := r1 ++ r2 ++ [.done sg 2]) ?_ fun F7 H7 p7 g7 he => ?_
      · rw [List.map_append, List.map_append]
        exact ((ha1.mono (g2.ff.trans g26.ff)).app (ha2.mono (g2.ff.trans g26.ff))).app (.one (e4.mono (g5.ff.trans g6.ff)))
      · exact k1 (by omega) F7 H7 _ ((g2.trans g26).trans g7) ⟨p7, rfl, he⟩
def sp_unary (a : Ad) (K : PySem.W.Frag) : Sp := fun vs H Q E => ∃ (F : Hp) (s : List Nat) (p1 : Addr) (t1 : List Nat) (r1 : List Row), vs = [.str (tx s), .ref p1] ∧ Same F H ∧ ExprAt a K F p1 t1 r1 ∧
  s.length ≤ 100 ∧ t1.length ≤ 10000 ∧ r1.length ≤ 1000 ∧ UnPost a K s F H t1 r1 Q E
theorem ok_unary (T : Txt K mg a) : FnOk P w K mg base (CX P w) 3 a.f_unary a.fd_unary ["sign", "one"]  (sp_unary a K) := by
  refine T.F_unary.okX sc_unary (fun vs H Q E h => ?_) (fun cdv A outer s H vs Q E hr h => ?_)
  · obtain ⟨_, _, _, _, _, rfl, _⟩ := h
    rfl
  · obtain ⟨F, sg, p1, t1, r1, rfl, fh, hE1, hsl, ht1, hr1, k1, k2⟩ := h
    obtain ⟨dx1, q1, xs1, hp1, hq1, ha1⟩ := hE1.ex
    have hl1 : xs1.length = r1.length := by simpa using ha1.length
    have hp1' := fh _ _ hp1
    refine ⟨_, ((pss_cons (ps_if (pt_cmpR op_ge (pe_call (ok_count_steps T) (hr.mono (by decide)) rfl T.g_count_steps T.F_count_steps.kp T.b_count_steps .nil pass0 (pa_cons (pe_fld (pv 1) rfl) pa_nil)) (pe_glob (v := .int 100) rfl T.g_MOST ⟨_, rfl⟩) (nomark _))
 (pss_one (ps_raiseO rfl (takes_of rfl rfl rfl rfl) T.ox_TooMany T.m_TooMany_init.at_ T.xt_TooMany (ok_TooMany_init T) hr T.b_TooMany_init pass0 rfl T.g_TooMany (pa_cons pe_str pa_nil)))
 pss_nil)
 (pss_one (ps_ret (pe_make T.mk_Expression (ok_Expression_init T) hr rfl T.g_Expression T.b_Expression_init .nil pass0 (pa_cons (pe_joined (.cons (pe_fmt (pv 0)) (.cons pe_str (.cons (pe_fmt (pe_fld (pv 1) rfl)) (.cons pe_str .nil))))) (pa_cons (pe_op op_cat (pe_fld (pv 1) rfl) (pe_lst (pa_cons (pe_tup (pa_cons (pe_glob (v := .str "done") rfl T.g_DONE ⟨_, rfl⟩) (pa_cons (pv 0) (pa_cons pe_int pa_nil)))) pa_nil))) pa_nil))))))), ?_⟩
    try simp only [cxK, open_tx, close_tx, space_tx, empty_tx]
    lcg_off
    refine ⟨F, .ref q1, r1, rfl, fh, .lst (sqL_of hq1) ha1, by omega, fun F2 H2 v g2 e1 => ?_⟩
    subst e1
    have hp1' := g2.same _ _ hp1'
    lcg_off
    refine ifD (fun c => ?_) (fun c => ?_)
    · refine rd_raiseO ?_
      lcg_off
      refine rd_err1 fun d H' h1 h2 h3 => ?_
      exact k2 (by omega) d H' (g2.same.trans h2) (g2.same.free h1) h3
    · lcg_off
      refine newTD (K := K) g2.fh (flAll_mk (ds := [.str "done", .str (tx sg), .int 1]) rfl) fun F4 H4 T4 g4 n4 e4 => ?_
      lcg_off
      refine newL g4.fh fun F5 H5 l5 g5 n5 e5 => ?_
      lcg_off
      refine new_cat g5.fh (g5.fh _ _ (g5.ff _ _ (g4.ff _ _ (g2.ff _ _ hq1)))) (g5.fh _ _ e5) (by simp; omega) fun F6 H6 l6 g6 n6 e6 => ?_
      lcg_off
      have eT : ([] ++ sg ++ [40] ++ t1 ++ [41] : List Nat) = utext sg t1 := by simp [utext]
      rw [eT]
      have g26 := (g4.trans g5).trans g6
      refine make_expr g6.fh (sqL_of (g6.fh _ _ e6)) (g6.fh _ _ e6) (rows := r1 ++ [.done sg 1]) ?_ fun F7 H7 p7 g7 he => ?_
      · rw [List.map_append]
        exact (ha1.mono (g2.ff.trans g26.ff)).app (.one (e4.mono (g5.ff.trans g6.ff)))
      · exact k1 (by omega) F7 H7 _ ((g2.trans g26).trans g7) ⟨p7, rfl, he⟩
def sp_opb (a : Ad) (K : PySem.W.Frag) (s : List Nat) : Sp := fun vs H Q E => ∃ (F : Hp) (p1 p2 : Addr) (t1 t2 : List Nat) (r1 r2 : List Row), vs = [.ref p1, .ref p2] ∧ Same F H ∧ ExprAt a K F p1 t1 r1 ∧ ExprAt a K F p2 t2 r2 ∧
  t1.length ≤ 10000 ∧ t2.length ≤ 10000 ∧ r1.length ≤ 1000 ∧ r2.length ≤ 1000 ∧ BinPost a K s F H t1 r1 t2 r2 Q E
def sp_opu (a : Ad) (K : PySem.W.Frag) (s : List Nat) : Sp := fun vs H Q E => ∃ (F : Hp) (p1 : Addr) (t1 : List Nat) (r1 : List Row), vs = [.ref p1] ∧ Same F H ∧ ExprAt a K F p1 t1 r1 ∧
  t1.length ≤ 10000 ∧ r1.length ≤ 1000 ∧ UnPost a K s F H t1 r1 Q E
theorem add_tx : Str.ofString "+" = tx [43] := by decide +kernel
theorem ok_Expression_add (T : Txt K mg a) : FnOk P w K mg base (CX P w) 4 a.f_Expression_add a.fd_Expression_add ["self", "other"]  (sp_opb a K [43]) := by
  refine T.F_Expression_add.okX sc_Expression_add (fun vs H Q E h => ?_) (fun cdv A outer s H vs Q E hr h => ?_)
  · obtain ⟨_, _, _, _, _, _, _, rfl, _⟩ := h
    rfl
  · obtain ⟨F, p1, p2, t1, t2, r1, r2, rfl, h⟩ := h
    refine ⟨_, ((pss_one (ps_ret (pe_call (ok_binary T) hr rfl T.g_binary T.F_binary.kp T.b_binary .nil (passes_call (takes_of rfl rfl rfl rfl) (fun _ _ _ _ h => h)) (pa_cons pe_str (pa_cons (pv 0) (pa_cons (pv 1) pa_nil))))))), ?_⟩
    try simp only [cxK, add_tx]
    lcg_off
    obtain ⟨h1, h2, h3, h4, h5, h6, h7, h8⟩ := h
    exact ⟨F, [43], p1, p2, t1, t2, r1, r2, rfl, h1, h2, h3, by decide, h4, h5, h6, h7, h8⟩
theorem sub_tx : Str.ofString "-" = tx [45] := by decide +kernel
theorem ok_Expression_sub (T : Txt K mg a) : FnOk P w K mg base (CX P w) 4 a.f_Expression_sub a.fd_Expression_sub ["self", "other"]  (sp_opb a K [45]) := by
  refine T.F_Expression_sub.okX sc_Expression_sub (fun vs H Q E h => ?_) (fun cdv A outer s H vs Q E hr h => ?_)
  · obtain ⟨_, _, _, _, _, _, _, rfl, _⟩ := h
    rfl
  · obtain ⟨F, p1, p2, t1, t2, r1, r2, rfl, h⟩ := h
    refine ⟨_, ((pss_one (ps_ret (pe_call (ok_binary T) hr rfl T.g_binary T.F_binary.kp T.b_binary .nil (passes_call (takes_of rfl rfl rfl rfl) (fun _ _ _ _ h => h)) (pa_cons pe_str (pa_cons (pv 0) (pa_cons (pv 1) pa_nil))))))), ?_⟩
    try simp only [cxK, sub_tx]
    lcg_off
    obtain ⟨h1, h2, h3, h4, h5, h6, h7, h8⟩ := h
    exact ⟨F, [45], p1, p2, t1, t2, r1, r2, rfl, h1, h2, h3, by decide, h4, h5, h6, h7, h8⟩
theorem mul_tx : Str.ofString "*" = tx [42] := by decide +kernel
theorem ok_Expression_mul (T : Txt K mg a) : FnOk P w K mg base (CX P w) 4 a.f_Expression_mul a.fd_Expression_mul ["self", "other"]  (sp_opb a K [42]) := by
  refine T.F_Expression_mul.okX sc_Expression_mul (fun vs H Q E h => ?_) (fun cdv A outer s H vs Q E hr h => ?_)
  · obtain ⟨_, _, _, _, _, _, _, rfl, _⟩ := h
    rfl
  · obtain ⟨F, p1, p2, t1, t2, r1, r2, rfl, h⟩ := h
    refine ⟨_, ((pss_one (ps_ret (pe_call (ok_binary T) hr rfl T.g_binary T.F_binary.kp T.b_binary .nil (passes_call (takes_of rfl rfl rfl rfl) (fun _ _ _ _ h => h)) (pa_cons pe_str (pa_cons (pv 0) (pa_cons (pv 1) pa_nil))))))), ?_⟩
    try simp only [cxK, mul_tx]
    lcg_off
    obtain ⟨h1, h2, h3, h4, h5, h6, h7, h8⟩ := h
    exact ⟨F, [42], p1, p2, t1, t2, r1, r2, rfl, h1, h2, h3, by decide, h4, h5, h6, h7, h8⟩
theorem floordiv_tx : Str.ofString "//" = tx [47 , 47] := by decide +kernel
theorem ok_Expression_floordiv (T : Txt K mg a) : FnOk P w K mg base (CX P w) 4 a.f_Expression_floordiv a.fd_Expression_floordiv ["self", "other"]  (sp_opb a K [47 , 47]) := by
  refine T.F_Expression_floordiv.okX sc_Expression_floordiv (fun vs H Q E h => ?_) (fun cdv A outer s H vs Q E hr h => ?_)
  · obtain ⟨_, _, _, _, _, _, _, rfl, _⟩ := h
    rfl
  · obtain ⟨F, p1, p2, t1, t2, r1, r2, rfl, h⟩ := h
    refine ⟨_, ((pss_one (ps_ret (pe_call (ok_binary T) hr rfl T.g_binary T.F_binary.kp T.b_binary .nil (passes_call (takes_of rfl rfl rfl rfl) (fun _ _ _ _ h => h)) (pa_cons pe_str (pa_cons (pv 0) (pa_cons (pv 1) pa_nil))))))), ?_⟩
    try simp only [cxK, floordiv_tx]
    lcg_off
    obtain ⟨h1, h2, h3, h4, h5, h6, h7, h8⟩ := h
    exact ⟨F, [47 , 47], p1, p2, t1, t2, r1, r2, rfl, h1, h2, h3, by decide, h4, h5, h6, h7, h8⟩
theorem and_tx : Str.ofString "&" = tx [38] := by decide +kernel
theorem ok_Expression_and (T : Txt K mg a) : FnOk P w K mg base (CX P w) 4 a.f_Expression_and a.fd_Expression_and ["self", "other"]  (sp_opb a K [38]) := by
  refine T.F_Expression_and.okX sc_Expression_and (fun vs H Q E h => ?_) (fun cdv A outer s H vs Q E hr h => ?_)
  · obtain ⟨_, _, _, _, _, _, _, rfl, _⟩ := h
    rfl
  · obtain ⟨F, p1, p2, t1, t2, r1, r2, rfl, h⟩ := h
    refine ⟨_, ((pss_one (ps_ret (pe_call (ok_binary T) hr rfl T.g_binary T.F_binary.kp T.b_binary .nil (passes_call (takes_of rfl rfl rfl rfl) (fun _ _ _ _ h => h)) (pa_cons pe_str (pa_cons (pv 0) (pa_cons (pv 1) pa_nil))))))), ?_⟩
    try simp only [cxK, and_tx]
    lcg_off
    obtain ⟨h1, h2, h3, h4, h5, h6, h7, h8⟩ := h
    exact ⟨F, [38], p1, p2, t1, t2, r1, r2, rfl, h1, h2, h3, by decide, h4, h5, h6, h7, h8⟩
theorem or_tx : Str.ofString "|" = tx [124] := by decide +kernel
theorem ok_Expression_or (T : Txt K mg a) : FnOk P w K mg base (CX P w) 4 a.f_Expression_or a.fd_Expression_or ["self", "other"]  (sp_opb a K [124]) := by
  refine T.F_Expression_or.okX sc_Expression_or (fun vs H Q E h => ?_) (fun cdv A outer s H vs Q E hr h => ?_)
  · obtain ⟨_, _, _, _, _, _, _, rfl, _⟩ := h
    rfl
  · obtain ⟨F, p1, p2, t1, t2, r1, r2, rfl, h⟩ := h
    refine ⟨_, ((pss_one (ps_ret (pe_call (ok_binary T) hr rfl T.g_binary T.F_binary.kp T.b_binary .nil (passes_call (takes_of rfl rfl rfl rfl) (fun _ _ _ _ h => h)) (pa_cons pe_str (pa_cons (pv 0) (pa_cons (pv 1) pa_nil))))))), ?_⟩
    try simp only [cxK, or_tx]
    lcg_off
    obtain ⟨h1, h2, h3, h4, h5, h6, h7, h8⟩ := h
    exact ⟨F, [124], p1, p2, t1, t2, r1, r2, rfl, h1, h2, h3, by decide, h4, h5, h6, h7, h8⟩
theorem xor_tx : Str.ofString "^" = tx [94] := by decide +kernel
theorem ok_Expression_xor (T : Txt K mg a) : FnOk P w K mg base (CX P w) 4 a.f_Expression_xor a.fd_Expression_xor ["self", "other"]  (sp_opb a K [94]) := by
  refine T.F_Expression_xor.okX sc_Expression_xor (fun vs H Q E h => ?_) (fun cdv A outer s H vs Q E hr h => ?_)
  · obtain ⟨_, _, _, _, _, _, _, rfl, _⟩ := h
    rfl
  · obtain ⟨F, p1, p2, t1, t2, r1, r2, rfl, h⟩ := h
    refine ⟨_, ((pss_one (ps_ret (pe_call (ok_binary T) hr rfl T.g_binary T.F_binary.kp T.b_binary .nil (passes_call (takes_of rfl rfl rfl rfl) (fun _ _ _ _ h => h)) (pa_cons pe_str (pa_cons (pv 0) (pa_cons (pv 1) pa_nil))))))), ?_⟩
    try simp only [cxK, xor_tx]
    lcg_off
    obtain ⟨h1, h2, h3, h4, h5, h6, h7, h8⟩ := h
    exact ⟨F, [94], p1, p2, t1, t2, r1, r2, rfl, h1, h2, h3, by decide, h4, h5, h6, h7, h8⟩
theorem lshift_tx : Str.ofString "<<" = tx [60 , 60] := by decide +kernel
theorem ok_Expression_lshift (T : Txt K mg a) : FnOk P w K mg base (CX P w) 4 a.f_Expression_lshift a.fd_Expression_lshift ["self", "other"]  (sp_opb a K [60 , 60]) := by
  refine T.F_Expression_lshift.okX sc_Expression_lshift (fun vs H Q E h => ?_) (fun cdv A outer s H vs Q E hr h => ?_)
  · obtain ⟨_, _, _, _, _, _, _, rfl, _⟩ := h
    rfl
  · obtain ⟨F, p1, p2, t1, t2, r1, r2, rfl, h⟩ := h
    refine ⟨_, ((pss_one (ps_ret (pe_call (ok_binary T) hr rfl T.g_binary T.F_binary.kp T.b_binary .nil (passes_call (takes_of rfl rfl rfl rfl) (fun _ _ _ _ h => h)) (pa_cons pe_str (pa_cons (pv 0) (pa_cons (pv 1) pa_nil))))))), ?_⟩
    try simp only [cxK, lshift_tx]
    lcg_off
    obtain ⟨h1, h2, h3, h4, h5, h6, h7, h8⟩ := h
    exact ⟨F, [60 , 60], p1, p2, t1, t2, r1, r2, rfl, h1, h2, h3, by decide, h4, h5, h6, h7, h8⟩
theorem rshift_tx : Str.ofString ">>" = tx [62 , 62] := by decide +kernel
theorem ok_Expression_rshift (T : Txt K mg a) : FnOk P w K mg base (CX P w) 4 a.f_Expression_rshift a.fd_Expression_rshift ["self", "other"]  (sp_opb a K [62 , 62]) := by
  refine T.F_Expression_rshift.okX sc_Expression_rshift (fun vs H Q E h => ?_) (fun cdv A outer s H vs Q E hr h => ?_)
  · obtain ⟨_, _, _, _, _, _, _, rfl, _⟩ := h
    rfl
  · obtain ⟨F, p1, p2, t1, t2, r1, r2, rfl, h⟩ := h
    refine ⟨_, ((pss_one (ps_ret (pe_call (ok_binary T) hr rfl T.g_binary T.F_binary.kp T.b_binary .nil (passes_call (takes_of rfl rfl rfl rfl) (fun _ _ _ _ h => h)) (pa_cons pe_str (pa_cons (pv 0) (pa_cons (pv 1) pa_nil))))))), ?_⟩
    try simp only [cxK, rshift_tx]
    lcg_off
    obtain ⟨h1, h2, h3, h4, h5, h6, h7, h8⟩ := h
    exact ⟨F, [62 , 62], p1, p2, t1, t2, r1, r2, rfl, h1, h2, h3, by decide, h4, h5, h6, h7, h8⟩
theorem neg_tx : Str.ofString "neg" = tx [110, 101, 103] := by decide +kernel
theorem ok_Expression_neg (T : Txt K mg a) : FnOk P w K mg base (CX P w) 4 a.f_Expression_neg a.fd_Expression_neg ["self"]  (sp_opu a K [110, 101, 103]) := by
  refine T.F_Expression_neg.okX sc_Expression_neg (fun vs H Q E h => ?_) (fun cdv A outer s H vs Q E hr h => ?_)
  · obtain ⟨_, _, _, _, rfl, _⟩ := h
    rfl
  · obtain ⟨F, p1, t1, r1, rfl, h⟩ := h
    refine ⟨_, ((pss_one (ps_ret (pe_call (ok_unary T) hr rfl T.g_unary T.F_unary.kp T.b_unary .nil (passes_call (takes_of rfl rfl rfl rfl) (fun _ _ _ _ h => h)) (pa_cons pe_str (pa_cons (pv 0) pa_nil)))))), ?_⟩
    try simp only [cxK, neg_tx]
    lcg_off
    obtain ⟨h1, h2, h4, h6, h8⟩ := h
    exact ⟨F, [110, 101, 103], p1, t1, r1, rfl, h1, h2, by decide, h4, h6, h8⟩
theorem pos_tx : Str.ofString "pos" = tx [112, 111, 115] := by decide +kernel
theorem ok_Expression_pos (T : Txt K mg a) : FnOk P w K mg base (CX P w) 4 a.f_Expression_pos a.fd_Expression_pos ["self"]  (sp_opu a K [112, 111, 115]) := by
  refine T.F_Expression_pos.okX sc_Expression_pos (fun vs H Q E h => ?_) (fun cdv A outer s H vs Q E hr h => ?_)
  · obtain ⟨_, _, _, _, rfl, _⟩ := h
    rfl
  · obtain ⟨F, p1, t1, r1, rfl, h⟩ := h
    refine ⟨_, ((pss_one (ps_ret (pe_call (ok_unary T) hr rfl T.g_unary T.F_unary.kp T.b_unary .nil (passes_call (takes_of rfl rfl rfl rfl) (fun _ _ _ _ h => h)) (pa_cons pe_str (pa_cons (pv 0) pa_nil)))))), ?_⟩
    try simp only [cxK, pos_tx]
    lcg_off
    obtain ⟨h1, h2, h4, h6, h8⟩ := h
    exact ⟨F, [112, 111, 115], p1, t1, r1, rfl, h1, h2, by decide, h4, h6, h8⟩
theorem abs_tx : Str.ofString "abs" = tx [97, 98, 115] := by decide +kernel
theorem ok_Expression_abs (T : Txt K mg a) : FnOk P w K mg base (CX P w) 4 a.f_Expression_abs a.fd_Expression_abs ["self"]  (sp_opu a K [97, 98, 115]) := by
  refine T.F_Expression_abs.okX sc_Expression_abs (fun vs H Q E h => ?_) (fun cdv A outer s H vs Q E hr h => ?_)
  · obtain ⟨_, _, _, _, rfl, _⟩ := h
    rfl
  · obtain ⟨F, p1, t1, r1, rfl, h⟩ := h
    refine ⟨_, ((pss_one (ps_ret (pe_call (ok_unary T) hr rfl T.g_unary T.F_unary.kp T.b_unary .nil (passes_call (takes_of rfl rfl rfl rfl) (fun _ _ _ _ h => h)) (pa_cons pe_str (pa_cons (pv 0) pa_nil)))))), ?_⟩
    try simp only [cxK, abs_tx]
    lcg_off
    obtain ⟨h1, h2, h4, h6, h8⟩ := h
    exact ⟨F, [97, 98, 115], p1, t1, r1, rfl, h1, h2, by decide, h4, h6, h8⟩
theorem invert_tx : Str.ofString "invert" = tx [105, 110, 118, 101, 114, 116] := by decide +kernel
theorem ok_Expression_invert (T : Txt K mg a) : FnOk P w K mg base (CX P w) 4 a.f_Expression_invert a.fd_Expression_invert ["self"]  (sp_opu a K [105, 110, 118, 101, 114, 116]) := by
  refine T.F_Expression_invert.okX sc_Expression_invert (fun vs H Q E h => ?_) (fun cdv A outer s H vs Q E hr h => ?_)
  · obtain ⟨_, _, _, _, rfl, _⟩ := h
    rfl
  · obtain ⟨F, p1, t1, r1, rfl, h⟩ := h
    refine ⟨_, ((pss_one (ps_ret (pe_call (ok_unary T) hr rfl T.g_unary T.F_unary.kp T.b_unary .nil (passes_call (takes_of rfl rfl rfl rfl) (fun _ _ _ _ h => h)) (pa_cons pe_str (pa_cons (pv 0) pa_nil)))))), ?_⟩
    try simp only [cxK, invert_tx]
    lcg_off
    obtain ⟨h1, h2, h4, h6, h8⟩ := h
    exact ⟨F, [105, 110, 118, 101, 114, 116], p1, t1, r1, rfl, h1, h2, by decide, h4, h6, h8⟩
end
section
variable {X : Cx} {a : Ad} {E : XK}
theorem own_Expression_add (T : Txt X.K X.mg a) (hx : Passes (CX X.prog X.w) X E) : Own X a.C_Expression "__add__" 4 (sp_opb a X.K [43]) E := ⟨_, _, _, CX X.prog X.w, ok_Expression_add T, T.m_Expression_add.at_, T.m_Expression_add.fn, T.b_Expression_add, hx⟩
theorem own_Expression_sub (T : Txt X.K X.mg a) (hx : Passes (CX X.prog X.w) X E) : Own X a.C_Expression "__sub__" 4 (sp_opb a X.K [45]) E := ⟨_, _, _, CX X.prog X.w, ok_Expression_sub T, T.m_Expression_sub.at_, T.m_Expression_sub.fn, T.b_Expression_sub, hx⟩
theorem own_Expression_mul (T : Txt X.K X.mg a) (hx : Passes (CX X.prog X.w) X E) : Own X a.C_Expression "__mul__" 4 (sp_opb a X.K [42]) E := ⟨_, _, _, CX X.prog X.w, ok_Expression_mul T, T.m_Expression_mul.at_, T.m_Expression_mul.fn, T.b_Expression_mul, hx⟩
theorem own_Expression_floordiv (T : Txt X.K X.mg a) (hx : Passes (CX X.prog X.w) X E) : Own X a.C_Expression "__floordiv__" 4 (sp_opb a X.K [47 , 47]) E := ⟨_, _, _, CX X.prog X.w, ok_Expression_floordiv T, T.m_Expression_floordiv.at_, T.m_Expression_floordiv.fn, T.b_Expression_floordiv, hx⟩
theorem own_Expression_and (T : Txt X.K X.mg a) (hx : Passes (CX X.prog X.w) X E) : Own X a.C_Expression "__and__" 4 (sp_opb a X.K [38]) E := ⟨_, _, _, CX X.prog X.w, ok_Expression_and T, T.m_Expression_and.at_, T.m_Expression_and.fn, T.b_Expression_and, hx⟩
theorem own_Expression_or (T : Txt X.K X.mg a) (hx : Passes (CX X.prog X.w) X E) : Own X a.C_Expression "__or__" 4 (sp_opb a X.K [124]) E := ⟨_, _, _, CX X.prog X.w, ok_Expression_or T, T.m_Expression_or.at_, T.m_Expression_or.fn, T.b_Expression_or, hx⟩
theorem own_Expression_xor (T : Txt X.K X.mg a) (hx : Passes (CX X.prog X.w) X E) : Own X a.C_Expression "__xor__" 4 (sp_opb a X.K [94]) E := ⟨_, _, _, CX X.prog X.w, ok_Expression_xor T, T.m_Expression_xor.at_, T.m_Expression_xor.fn, T.b_Expression_xor, hx⟩
theorem own_Expression_lshift (T : Txt X.K X.mg a) (hx : Passes (CX X.prog X.w) X E) : Own X a.C_Expression "__lshift__" 4 (sp_opb a X.K [60 , 60]) E := ⟨_, _, _, CX X.prog X.w, ok_Expression_lshift T, T.m_Expression_lshift.at_, T.m_Expression_lshift.fn, T.b_Expression_lshift, hx⟩
theorem own_Expression_rshift (T : Txt X.K X.mg a) (hx : Passes (CX X.prog X.w) X E) : Own X a.C_Expression "__rshift__" 4 (sp_opb a X.K [62 , 62]) E := ⟨_, _, _, CX X.prog X.w, ok_Expression_rshift T, T.m_Expression_rshift.at_, T.m_Expression_rshift.fn, T.b_Expression_rshift, hx⟩
theorem own_Expression_neg (T : Txt X.K X.mg a) (hx : Passes (CX X.prog X.w) X E) : Own X a.C_Expression "__neg__" 4 (sp_opu a X.K [110, 101, 103]) E := ⟨_, _, _, CX X.prog X.w, ok_Expression_neg T, T.m_Expression_neg.at_, T.m_Expression_neg.fn, T.b_Expression_neg, hx⟩
theorem own_Expression_pos (T : Txt X.K X.mg a) (hx : Passes (CX X.prog X.w) X E) : Own X a.C_Expression "__pos__" 4 (sp_opu a X.K [112, 111, 115]) E := ⟨_, _, _, CX X.prog X.w, ok_Expression_pos T, T.m_Expression_pos.at_, T.m_Expression_pos.fn, T.b_Expression_pos, hx⟩
theorem own_Expression_abs (T : Txt X.K X.mg a) (hx : Passes (CX X.prog X.w) X E) : Own X a.C_Expression "__abs__" 4 (sp_opu a X.K [97, 98, 115]) E := ⟨_, _, _, CX X.prog X.w, ok_Expression_abs T, T.m_Expression_abs.at_, T.m_Expression_abs.fn, T.b_Expression_abs, hx⟩
theorem own_Expression_invert (T : Txt X.K X.mg a) (hx : Passes (CX X.prog X.w) X E) : Own X a.C_Expression "__invert__" 4 (sp_opu a X.K [105, 110, 118, 101, 114, 116]) E := ⟨_, _, _, CX X.prog X.w, ok_Expression_invert T, T.m_Expression_invert.at_, T.m_Expression_invert.fn, T.b_Expression_invert, hx⟩
theorem own_Expression_len (T : Txt X.K X.mg a) : Own X a.C_Expression "__len__" 1 (sp_Expression_len a X.K) E0 := ⟨_, _, _, CX0, ok_Expression_len T, T.m_Expression_len.at_, T.m_Expression_len.fn, T.b_Expression_len, pass0⟩
theorem own_Expression_str (T : Txt X.K X.mg a) : Own X a.C_Expression "__str__" 1 (sp_Expression_str a X.K) E0 := ⟨_, _, _, CX0, ok_Expression_str T, T.m_Expression_str.at_, T.m_Expression_str.fn, T.b_Expression_str, pass0⟩
theorem own_Expression_eq (T : Txt X.K X.mg a) : Own X a.C_Expression "__eq__" 1 (sp_Expression_eq a X.K) E0 := ⟨_, _, _, CX0, ok_Expression_eq T, T.m_Expression_eq.at_, T.m_Expression_eq.fn, T.b_Expression_eq, pass0⟩
end
end Ex

namespace Ex
open PySem L2 Hk
local macro_rules | `(tactic| array_mem_dec) => `(tactic| with_reducible first
  | assumption | exact upd_same
  | (apply upd_new; assumption; array_mem_dec)
  | (apply upd_old; tlg_ne; array_mem_dec)
  | (apply same_at; assumption; array_mem_dec))
local macro_rules | `(tactic| tlg_ne) => `(tactic| with_reducible first
  | assumption | (apply Ne.symm; assumption)
  | (apply ne_new; assumption; array_mem_dec) | (apply ne_new'; assumption; array_mem_dec)
  | (apply ne_of; assumption; assumption; (with_unfolding_all (intro z; cases z; done))))
local macro_rules | `(tactic| decreasing_trivial_pre_omega) => `(tactic| with_reducible first
  | assumption | (apply sqL_of; array_mem_dec) | (apply sqT_of; array_mem_dec)
  | (apply Same.seq; assumption; decreasing_trivial_pre_omega) | (apply sqT_same; assumption; decreasing_trivial_pre_omega)
  | (apply sqL_new; assumption; decreasing_trivial_pre_omega) | (apply sqL_upd; tlg_ne; decreasing_trivial_pre_omega))
local macro_rules | `(tactic| kpt_turns) => `(tactic| with_reducible first
  | assumption | exact Same.refl _ | (apply same_ext; kpt_turns; assumption) | (apply same_mut; kpt_turns; keq_hits) | (apply same_step; assumption; kpt_turns))
local macro_rules | `(tactic| keq_hits) => `(tactic| with_reducible first | assumption | (apply same_none; assumption; keq_hits))
local macro_rules | `(tactic| sizeOf_list_dec) => `(tactic| first | (with_reducible assumption) | (with_reducible_and_instances omega) | (with_unfolding_all decide))
local macro_rules | `(tactic| array_get_dec) => `(tactic| first | (with_reducible assumption) | (apply sz_of; (with_unfolding_all simp); done) | (apply sz_of; omega) | (apply sz_lt; (with_unfolding_all simp); done) | (apply sz_lt; omega))
local macro_rules | `(tactic| keq_rows) => `(tactic| with_reducible first
  | apply rd_asgN | apply rd_seq | apply rd_parA | apply rd_par3A | apply rd_par2 | apply rd_par3 | apply rd_m1 | apply rd_isStr | apply rd_cval | apply rd_asg | apply rd_gname | apply rd_op | (show tVar _ _ _ _; refine rd_var (by with_unfolding_all rfl) ?_) | apply rd_c | apply rd_I0
  | apply rd_cons | apply rd_nil | apply rd_cb | apply rd_test | apply rd_bl | apply rd_fld | apply rd_drop | apply rd_ret | apply rd_retN | apply rd_next
  | apply rd_ifS | apply rd_un | apply rd_B | apply rd_and | apply rd_or | apply rd_not | apply rd_andV | apply rd_orV | apply rd_notV | apply rd_if
  | apply rd_int | apply rd_abs | apply rd_max | apply rd_min | apply rd_strS | apply rd_U
  | apply rd_eqTx | apply rd_neTx | apply rd_inTx | apply rd_notInTx | apply rd_fmt | (show FmtK (.str (tx _)) _ _; refine rd_fmtT (by omega) ?_) | apply rd_jsC | apply rd_jsN | (show JsK _ (tx _) _ (.str (tx _)) _ _; refine rd_JsK (by first | omega | (simp; done) | (simp; omega)) ?_) | (show rAddStr (.str (tx _)) (.str (tx _)) _ _; refine rd_addT (by first | omega | (simp; done) | (simp; omega)) ?_) | (show rLenStr [.str (tx _)] _ _; refine rd_lenTx (by omega) ?_)
  | (show rEq _ _ _ _; refine rd_eq (by with_unfolding_all rfl) ?_) | (show rNe _ _ _ _; refine rd_ne (by with_unfolding_all rfl) ?_) | apply rd_isNone | apply rd_notNone
  | (show rIxL _ _ _ _ _; refine rd_ixL (by decreasing_trivial_pre_omega) (by with_unfolding_all rfl) ?_) | (show rIxT _ _ _ _ _; refine rd_ixT (by decreasing_trivial_pre_omega) (by with_unfolding_all rfl) ?_)
  | (show rLenSeq _ _ _ _; refine rd_lenL (by decreasing_trivial_pre_omega) ?_) | (show rLenSeq _ _ _ _; refine rd_lenT (by decreasing_trivial_pre_omega) ?_)
  | (show rI _ _ _ _ _ _; refine rd_mod (by sizeOf_list_dec) ?_) | (show rI _ _ _ _ _ _; refine rd_div (by sizeOf_list_dec) (by sizeOf_list_dec) ?_) | (show rI _ _ _ _ _ _; refine rd_mulR (by sizeOf_list_dec) (by sizeOf_list_dec) ?_) | (show rI _ _ _ _ _ _; refine rd_mulL (by sizeOf_list_dec) (by sizeOf_list_dec) ?_) | (show rI _ _ _ _ _ _; refine rd_pow (by sizeOf_list_dec) ?_)
  | (show rSetL _ _ _ _ _; refine rd_setL (by array_mem_dec) (by with_unfolding_all rfl) ?_)
  | apply rd_inSign | apply rd_notInSign | apply rd_tupK | apply rd_lstK | apply rd_sl | apply rd_noPart | apply rd_part | apply rd_isInt
  | apply rd_gsub | apply rd_gcons | apply rd_gnil | apply rd_call | apply rd_meth | apply rd_make | apply rd_smeth | apply rd_isC | apply rd_smethK | apply rd_cmeth | apply rd_cmethK
  | apply rd_bm | apply rd_bm0 | (show BmK _ _ _ _ _ _ _ _; refine rd_bmL (by array_mem_dec) ?_) | (show Bm0K _ _ _ _ _ _; refine rd_bm0L (by array_mem_dec) ?_) | apply rd_sfld | apply rd_aug | apply rd_rAdd | apply rd_brk | apply rd_cont
  | apply rd_for | apply rd_iList | (show IList _ _ _ _; refine rd_IList (by decreasing_trivial_pre_omega) ?_) | apply rd_iTup | (show ITup _ _ _ _; refine rd_ITup (by decreasing_trivial_pre_omega) ?_) | apply rd_iEnum | (show IEnum _ _ _ _; refine rd_IEnum (by decreasing_trivial_pre_omega) ?_) | apply rd_iRng1 | (show IRng1 _ _ _; refine rd_IRng1 (by sizeOf_list_dec) (by sizeOf_list_dec) ?_)
  | (show rLenStr _ _ _; refine rd_lenS (by array_get_dec) ?_) | (show rAddStr _ _ _ _; refine rd_addS (by array_get_dec) ?_) | (show rSlS _ _ _ _ _; refine rd_slS (by array_get_dec) ?_) | apply rd_lc | apply rd_yes | (show gTup _ _ _ _ _ _ _; refine rd_gtup (by decreasing_trivial_pre_omega) (by with_unfolding_all rfl) ?_) | (show tMakeL _ _ _ _ _ _ _ _; refine rd_makeL (by with_unfolding_all rfl) ?_))
local macro_rules | `(tactic| kas_types) => `(tactic| with_reducible first | apply rd_isi_int_int | apply rd_isi_int_bool | apply rd_isi_int_str | apply rd_isi_int_list | apply rd_isi_int_tuple | apply rd_isi_bool_int | apply rd_isi_bool_bool | apply rd_isi_bool_str | apply rd_isi_bool_list | apply rd_isi_bool_tuple | apply rd_isi_str_int | apply rd_isi_str_bool | apply rd_isi_str_str | apply rd_isi_str_list | apply rd_isi_str_tuple | (show rIsi _ _ _ _; refine rd_isi_list_int (by array_mem_dec) ?_) | (show rIsi _ _ _ _; refine rd_isi_list_bool (by array_mem_dec) ?_) | (show rIsi _ _ _ _; refine rd_isi_list_str (by array_mem_dec) ?_) | (show rIsi _ _ _ _; refine rd_isi_list_list (by array_mem_dec) ?_) | (show rIsi _ _ _ _; refine rd_isi_list_tuple (by array_mem_dec) ?_) | (show rIsi _ _ _ _; refine rd_isi_tuple_int (by array_mem_dec) ?_) | (show rIsi _ _ _ _; refine rd_isi_tuple_bool (by array_mem_dec) ?_) | (show rIsi _ _ _ _; refine rd_isi_tuple_str (by array_mem_dec) ?_) | (show rIsi _ _ _ _; refine rd_isi_tuple_list (by array_mem_dec) ?_) | (show rIsi _ _ _ _; refine rd_isi_tuple_tuple (by array_mem_dec) ?_) | apply rd_isi_NoneType_int | apply rd_isi_NoneType_bool | apply rd_isi_NoneType_str | apply rd_isi_NoneType_list | apply rd_isi_NoneType_tuple)
local macro_rules | `(tactic| lcg_src) => `(tactic| repeat keq_rows)

/-! ### the reader as an object -/
def fR (t : List Nat) (i : Nat) (nq rq : Addr) : List (Str × V) := [("text", .str (tx t)), ("at", .int (i : Nat)), ("nested", .ref nq), ("rows", .ref rq)]
theorem fR_text {t : List Nat} {i : Nat} {nq rq : Addr} : (fR t i nq rq).lookup ("text" : Str) = some (.str (tx t)) := by unfold fR; rw [List.lookup_cons_self]
theorem fR_at {t : List Nat} {i : Nat} {nq rq : Addr} : (fR t i nq rq).lookup ("at" : Str) = some (.int (i : Nat)) := by
  unfold fR
  rw [List.lookup_cons, show (("at" : Str) == "text") = false by decide +kernel, List.lookup_cons_self]
theorem fR_nested {t : List Nat} {i : Nat} {nq rq : Addr} : (fR t i nq rq).lookup ("nested" : Str) = some (.ref nq) := by
  unfold fR
  rw [List.lookup_cons, show (("nested" : Str) == "text") = false by decide +kernel, List.lookup_cons, show (("nested" : Str) == "at") = false by decide +kernel, List.lookup_cons_self]
theorem fR_rows {t : List Nat} {i : Nat} {nq rq : Addr} : (fR t i nq rq).lookup ("rows" : Str) = some (.ref rq) := by
  unfold fR
  rw [List.lookup_cons, show (("rows" : Str) == "text") = false by decide +kernel, List.lookup_cons, show (("rows" : Str) == "at") = false by decide +kernel, List.lookup_cons, show (("rows" : Str) == "nested") = false by decide +kernel, List.lookup_cons_self]
theorem fR_no {t : List Nat} {i : Nat} {nq rq : Addr} {m : Str} (h1 : (m == ("text" : Str)) = false) (h2 : (m == ("at" : Str)) = false) (h3 : (m == ("nested" : Str)) = false) (h4 : (m == ("rows" : Str)) = false) : (fR t i nq rq).lookup m = none := by
  unfold fR
  rw [List.lookup_cons, h1, List.lookup_cons, h2, List.lookup_cons, h3, List.lookup_cons, h4]
  rfl
theorem fR_put {t : List Nat} {i j : Nat} {nq rq : Addr} : putF "at" (.int (j : Nat)) (fR t i nq rq) = fR t j nq rq := by
  unfold fR
  show (if ("text" : Str) = "at" then _ else (("text" : Str), V.str (tx t)) :: (if ("at" : Str) = "at" then _ else _)) = _
  rw [if_neg (by decide +kernel), if_pos rfl]
def nestD (p : List Nat × Nat) : PyData := .tuple [.str (tx p.1), .int (p.2 : Nat)]
/-- a Reader stands at p, made behind the heap H0 with the frozen part F0 -/
structure RdAt (a : Ad) (K : PySem.W.Frag) (F0 H0 F H : Hp) (p dx nq rq : Addr) (t : List Nat) (st : RS) : Prop where
  gr : Grow [] F0 H0 F H
  np : H0 p = none
  nn : H0 nq = none
  nr : H0 rq = none
  ne : nq ≠ rq
  self : Hold F H p (.ins a.C_Reader dx (fR t st.i nq rq))
  nest : ∃ xs, Hold F H nq (.lst xs) ∧ DpAll K F xs (st.ns.map nestD)
  rws : ∃ ys, Hold F H rq (.lst ys) ∧ DpAll K F ys (st.rows.map Row.dat)
  len : t.length ≤ 10000
  tr : t.drop st.i = st.rest
  ti : st.i ≤ t.length
  nl : st.ns.length ≤ 100
  rl : st.rows.length ≤ st.i
  nk : ∀ x ∈ st.ns, okT x.1
section
variable {a : Ad} {K : PySem.W.Frag} {F0 H0 F H F' H' : Hp} {p dx nq rq : Addr} {t : List Nat} {st : RS}
theorem RdAt.npn (h : RdAt a K F0 H0 F H p dx nq rq t st) : p ≠ nq := by
  obtain ⟨xs, h1, _⟩ := h.nest
  exact ne_of h.self.h h1.h (by intro z; cases z)
theorem RdAt.npr (h : RdAt a K F0 H0 F H p dx nq rq t st) : p ≠ rq := by
  obtain ⟨xs, h1, _⟩ := h.rws
  exact ne_of h.self.h h1.h (by intro z; cases z)
theorem RdAt.slf (h : RdAt a K F0 H0 F H p dx nq rq t st) : H p = some (.ins a.C_Reader dx (fR t st.i nq rq)) := h.self.h
/-- the place turns -/
theorem RdAt.move (h : RdAt a K F0 H0 F H p dx nq rq t st) (n : Nat) (hn : st.i + n ≤ t.length) : RdAt a K F0 H0 F (upd H p (.ins a.C_Reader dx (fR t (st.i + n) nq rq))) p dx nq rq t (st.go n) := by
  obtain ⟨xs, h1, h2⟩ := h.nest
  obtain ⟨ys, h3, h4⟩ := h.rws
  refine ⟨h.gr.mut h.self.f (.inr h.np), h.np, h.nn, h.nr, h.ne, h.self.put, ⟨xs, h1.other h.npn.symm, h2⟩, ⟨ys, h3.other h.npr.symm, h4⟩, h.len, ?_, hn, h.nl, ?_, h.nk⟩
  · show t.drop (st.i + n) = st.rest.drop n
    rw [← h.tr, List.drop_drop]
  · have := h.rl
    show st.rows.length ≤ st.i + n
    omega
/-- something new beside it -/
theorem RdAt.beside (h : RdAt a K F0 H0 F H p dx nq rq t st) (g : Grow [] F H F' H') : RdAt a K F0 H0 F' H' p dx nq rq t st := by
  obtain ⟨xs, h1, h2⟩ := h.nest
  obtain ⟨ys, h3, h4⟩ := h.rws
  exact ⟨h.gr.trans g, h.np, h.nn, h.nr, h.ne, h.self.go0 g, ⟨xs, h1.go0 g, h2.mono g.ff⟩, ⟨ys, h3.go0 g, h4.mono g.ff⟩, h.len, h.tr, h.ti, h.nl, h.rl, h.nk⟩
/-- a row more -/
theorem RdAt.row {ys : List V} {v : V} {r : Row} (h : RdAt a K F0 H0 F H p dx nq rq t st) (hy : H rq = some (.lst ys)) (hv : Dp K F v r.dat) (hl : st.rows.length < st.i) : RdAt a K F0 H0 F (upd H rq (.lst (ys ++ [v]))) p dx nq rq t { st with rows := st.rows ++ [r] } := by
  obtain ⟨xs, h1, h2⟩ := h.nest
  obtain ⟨ys', h3, h4⟩ := h.rws
  have e := h3.h
  rw [hy] at e
  cases e
  refine ⟨h.gr.mut h3.f (.inr h.nr), h.np, h.nn, h.nr, h.ne, h.self.other h.npr, ⟨xs, h1.other h.ne, h2⟩, ⟨_, h3.put, ?_⟩, h.len, h.tr, h.ti, h.nl, by simp; omega, h.nk⟩
  rw [List.map_append]
  exact h4.snoc hv
/-- the nest is written -/
theorem RdAt.nesting {zs : List V} {ns : List (List Nat × Nat)} (h : RdAt a K F0 H0 F H p dx nq rq t st) (hz : DpAll K F zs (ns.map nestD)) (hl : ns.length ≤ 100) (hk : ∀ x ∈ ns, okT x.1) : RdAt a K F0 H0 F (upd H nq (.lst zs)) p dx nq rq t { st with ns := ns } := by
  obtain ⟨xs, h1, h2⟩ := h.nest
  obtain ⟨ys, h3, h4⟩ := h.rws
  exact ⟨h.gr.mut h1.f (.inr h.nn), h.np, h.nn, h.nr, h.ne, h.self.other h.npn, ⟨zs, h1.put, hz⟩, ⟨ys, h3.other h.ne.symm, h4⟩, h.len, h.tr, h.ti, hl, h.rl, hk⟩
end
/-- the error of a wrong place -/
abbrev Bad (a : Ad) (H0 : Hp) (E : XK) (i : Nat) : Prop := Err a.C_BadExpression "at" (.int (i : Nat)) H0 E
section
variable {P : Program} {w : World} {K : PySem.W.Frag} {mg : Str → Option Value} {base : Heap} {a : Ad} {H : Hp} {Q : VK} {p dx nq rq : Addr} {t : List Nat} {i : Nat} {D : Ends} {σ : L2.St}
theorem fldR_text (T : Txt K mg a) (e : H p = some (.ins a.C_Reader dx (fR t i nq rq))) (k : Q (.str (tx t)) H) : FldK K "text" (.ref p) H Q := rd_fldK e T.cl_Reader T.no_Reader_text fR_text k
theorem fldR_at (T : Txt K mg a) (e : H p = some (.ins a.C_Reader dx (fR t i nq rq))) (k : Q (.int (i : Nat)) H) : FldK K "at" (.ref p) H Q := rd_fldK e T.cl_Reader T.no_Reader_at fR_at k
theorem fldR_nested (T : Txt K mg a) (e : H p = some (.ins a.C_Reader dx (fR t i nq rq))) (k : Q (.ref nq) H) : FldK K "nested" (.ref p) H Q := rd_fldK e T.cl_Reader T.no_Reader_nested fR_nested k
theorem fldR_rows (T : Txt K mg a) (e : H p = some (.ins a.C_Reader dx (fR t i nq rq))) (k : Q (.ref rq) H) : FldK K "rows" (.ref p) H Q := rd_fldK e T.cl_Reader T.no_Reader_rows fR_rows k
/-- self.at += 1 -/
theorem augR_at (T : Txt K mg a) (e : H p = some (.ins a.C_Reader dx (fR t i nq rq))) {σ : L2.St} {P : Hp → Prop} (k : P (upd H p (.ins a.C_Reader dx (fR t (i + 1) nq rq)))) : AugK K "at" (tC (.int 1)) rAdd σ (.ref p) H P := by
  refine rd_augK e T.cl_Reader T.no_Reader_at fR_at ?_
  refine ⟨_, _, rfl, rfl, dx, _, e, (by show 4 < 1000; decide), ?_⟩
  have z : ((i : Nat) : Int) + 1 = ((i + 1 : Nat) : Int) := by omega
  rw [z, fR_put]
  exact k
/-- a method of the reader -/
theorem methR {m : Str} {sp : Sp} {E : XK} {tt : TA} (e : H p = some (.ins a.C_Reader dx (fR t i nq rq))) (h1 : (m == ("text" : Str)) = false) (h2 : (m == ("at" : Str)) = false) (h3 : (m == ("nested" : Str)) = false) (h4 : (m == ("rows" : Str)) = false)
    (q : tt σ H fun vs H2 => sp (.ref p :: (vs ++ [])) H2 Q E) : MethK a.C_Reader m sp E tt σ (.ref p) H Q := rd_methK e (fR_no h1 h2 h3 h4) q
end
local macro_rules | `(tactic| lcg_sub) => `(tactic| with_reducible first | refine fldR_at (by assumption) (by array_mem_dec) ?_ | refine fldR_text (by assumption) (by array_mem_dec) ?_ | refine fldR_nested (by assumption) (by array_mem_dec) ?_ | refine fldR_rows (by assumption) (by array_mem_dec) ?_ | refine augR_at (by assumption) (by array_mem_dec) ?_ | refine methR (by array_mem_dec) (by decide +kernel) (by decide +kernel) (by decide +kernel) (by decide +kernel) ?_ | refine rd_raiseO ?_)
local macro_rules | `(tactic| lcg_off) => `(tactic| repeat (first | keq_rows | lcg_sub))
section
variable {P : Program} {w : World} {K : PySem.W.Frag} {mg : Str → Option Value} {base : Heap} {a : Ad}
def sp_Reader_here (a : Ad) (K : PySem.W.Frag) : Sp := fun vs H Q E => ∃ (F0 H0 F : Hp) (p dx nq rq : Addr) (t : List Nat) (st : RS), vs = [.ref p] ∧ RdAt a K F0 H0 F H p dx nq rq t st ∧
  (∀ c r, st.rest = c :: r → Q (.str (tx [c])) H) ∧ (st.rest = [] → Bad a H0 E st.i)
theorem rest_at {t r : List Nat} {i c : Nat} (h : t.drop i = c :: r) : t[i]? = some c := by
  have := List.getElem?_drop (xs := t) (i := i) (j := 0)
  rw [h] at this
  simpa using this.symm
theorem rest_lt {t r : List Nat} {i c : Nat} (h : t.drop i = c :: r) : i < t.length := (List.getElem?_eq_some_iff.mp (rest_at h)).1
theorem ok_Reader_here (T : Txt K mg a) : FnOk P w K mg base (CX P w) 3 a.f_Reader_here a.fd_Reader_here ["self"]  (sp_Reader_here a K) := by
  refine T.F_Reader_here.okX sc_Reader_here (fun vs H Q E h => ?_) (fun cdv A outer s H vs Q E hr h => ?_)
  · obtain ⟨_, _, _, _, _, _, _, _, _, rfl, _⟩ := h
    rfl
  · obtain ⟨F0, H0, F, p, dx, nq, rq, t, st, rfl, R, k1, k2⟩ := h
    have hs := R.slf
    have hl := R.len
    have hti := R.ti
    refine ⟨_, ((pss_cons (ps_if (pt_cmpR op_ge (pe_fld (pv 0) rfl) (pe_callB call_lenStr (by rfl) T.n_len (by decide +kernel) (pa_cons (pe_fld (pv 0) rfl) pa_nil)) (nomark _))
 (pss_one (ps_raiseO rfl (takes_of rfl rfl rfl rfl) T.ox_BadExpression T.m_BadExpression_init.at_ T.xt_BadExpression (ok_BadExpression_init T) hr T.b_BadExpression_init pass0 rfl T.g_BadExpression (pa_cons (pe_fld (pv 0) rfl) pa_nil)))
 pss_nil)
 (pss_one (ps_ret (pe_ix ix_str (pe_fld (pv 0) rfl) (pe_fld (pv 0) rfl) (fun _ _ => rfl)))))), ?_⟩
    try simp only [cxK]
    cases hc : st.rest with
    | nil =>
      have hi : t.length ≤ st.i := by
        have := R.tr
        rw [hc] at this
        exact List.drop_eq_nil_iff.mp this
      lcg_off
      refine ifD (fun c => ?_) (fun c => absurd (show (st.i : Int) ≥ (t.length : Int) by omega) c)
      lcg_off
      refine rd_err1 fun d H' h1 h2 h3 => ?_
      exact k2 hc d H' (R.gr.same.trans h2) (R.gr.same.free h1) h3
    | cons c r =>
      have hd := R.tr
      rw [hc] at hd
      have hi := rest_lt hd
      lcg_off
      refine ifD (fun c => absurd c (by omega)) (fun _ => ?_)
      lcg_off
      refine rd_ixTx (by omega) (rest_at hd) ?_
      exact k1 c r hc
def sp_Reader_skip (a : Ad) (K : PySem.W.Frag) : Sp := fun vs H Q E => ∃ (F0 H0 F : Hp) (p dx nq rq : Addr) (t : List Nat) (st : RS) (l : List Nat), vs = [.ref p, .str (tx l)] ∧ RdAt a K F0 H0 F H p dx nq rq t st ∧
  (∀ st' F' H', mSkip l st = .ok st' → RdAt a K F0 H0 F' H' p dx nq rq t st' → st'.i = st.i + 1 → Q .non H') ∧ (∀ i, mSkip l st = .error i → Bad a H0 E i)
theorem ok_Reader_skip (T : Txt K mg a) : FnOk P w K mg base (CX P w) 4 a.f_Reader_skip a.fd_Reader_skip ["self", "some"]  (sp_Reader_skip a K) := by
  refine T.F_Reader_skip.okX sc_Reader_skip (fun vs H Q E h => ?_) (fun cdv A outer s H vs Q E hr h => ?_)
  · obtain ⟨_, _, _, _, _, _, _, _, _, _, rfl, _⟩ := h
    rfl
  · obtain ⟨F0, H0, F, p, dx, nq, rq, t, st, l, rfl, R, k1, k2⟩ := h
    have hs := R.slf
    refine ⟨_, ((pss_cons (ps_if (pt_cmpR op_notInSign (pe_meth0 (pv 0) T.cl_Reader T.m_Reader_here (ok_Reader_here T) hr T.b_Reader_here .nil (passes_call (takes_of rfl rfl rfl rfl) (fun _ _ _ _ h => h))) (pv 1) (by rfl))
 (pss_one (ps_raiseO rfl (takes_of rfl rfl rfl rfl) T.ox_BadExpression T.m_BadExpression_init.at_ T.xt_BadExpression (ok_BadExpression_init T) (hr.mono (by decide)) T.b_BadExpression_init pass0 rfl T.g_BadExpression (pa_cons (pe_fld (pv 0) rfl) pa_nil)))
 pss_nil)
 (pss_one (ps_fldaug (pv 0) pe_int in_add)))), ?_⟩
    try simp only [cxK]
    lcg_off
    refine ⟨F0, H0, F, p, dx, nq, rq, t, st, rfl, R, fun c r hc => ?_, fun hc => k2 _ (by unfold mSkip; rw [hc])⟩
    have hd := R.tr
    rw [hc] at hd
    have hi := rest_lt hd
    lcg_off
    refine ifN (fun z => ?_) (fun z => ?_)
    · lcg_off
      refine rd_err1 fun d H' h1 h2 h3 => ?_
      exact k2 st.i (by unfold mSkip; rw [hc]; simp [z]) d H' (R.gr.same.trans h2) (R.gr.same.free h1) h3
    · lcg_off
      exact k1 (st.go 1) _ _ (by unfold mSkip; rw [hc]; simp [z]) (R.move 1 (by omega)) rfl
theorem word_step {n c : Nat} {r : List Nat} (h : c ∈ smalls) : word (n + 1) (c :: r) = c :: word n r := if_pos h
theorem word_stop {n c : Nat} {r : List Nat} (h : c ∉ smalls) : word n (c :: r) = [] := by
  cases n with
  | zero => rfl
  | succ n => exact if_neg h
theorem word_end {n : Nat} : word n [] = [] := by cases n <;> rfl
theorem word_le (n : Nat) : ∀ l : List Nat, (word n l).length ≤ l.length ∧ (word n l).length ≤ n := by
  induction n with
  | zero => intro l; simp [word]
  | succ n ih =>
    intro l
    cases l with
    | nil => simp [word]
    | cons c r =>
      have := ih r
      unfold word
      split
      · simp; omega
      · simp
theorem word_pre (n : Nat) : ∀ l : List Nat, l.take (word n l).length = word n l := by
  induction n with
  | zero => intro l; simp [word]
  | succ n ih =>
    intro l
    cases l with
    | nil => simp [word]
    | cons c r =>
      unfold word
      split
      · simp [ih r]
      · simp
def sp_Reader_letters (a : Ad) (K : PySem.W.Frag) : Sp := fun vs H Q _ => ∃ (F0 H0 F : Hp) (p dx nq rq : Addr) (t : List Nat) (st : RS) (n : Nat), vs = [.ref p, .int (n : Nat)] ∧ RdAt a K F0 H0 F H p dx nq rq t st ∧
  ∀ F' H', RdAt a K F0 H0 F' H' p dx nq rq t (mLetters n st).2 → Q (.str (tx (mLetters n st).1)) H'
theorem go_go {st : RS} {n m : Nat} : (st.go n).go m = st.go (n + m) := by
  unfold RS.go
  simp
  omega
theorem ok_Reader_letters (T : Txt K mg a) : FnOk P w K mg base CX0 1 a.f_Reader_letters a.fd_Reader_letters ["self", "many"]  (sp_Reader_letters a K) := by
  refine T.F_Reader_letters.ok sc_Reader_letters (fun vs H Q E h => ?_) (fun cdv A outer s H vs Q E hr h => ?_)
  · obtain ⟨_, _, _, _, _, _, _, _, _, _, rfl, _⟩ := h
    rfl
  · obtain ⟨F0, H0, F, p, dx, nq, rq, t, st, n, rfl, R, k⟩ := h
    have hs := R.slf
    have hl := R.len
    have hi := R.ti
    refine ⟨_, ((pss_cons (ps_set (i := 2) sc_Reader_letters.nd rfl (Or.inl rfl) (pe_fld (pv 0) rfl))
 (pss_cons (ps_while PassesOwn.never (PW.pt (pw_and (pt_cmpR op_lt (pe_fld (pv 0) rfl) (pe_callB call_lenStr (by rfl) T.n_len (by decide +kernel) (pa_cons (pe_fld (pv 0) rfl) pa_nil)) (nomark _)) (pw_and (pt_cmpR op_lt (pe_fld (pv 0) rfl) (pe_op op_add (pv 2) (pv 1)) (nomark _)) (pw_and1 (pt_cmpR op_inSign (pe_ix ix_str (pe_fld (pv 0) rfl) (pe_fld (pv 0) rfl) (fun _ _ => rfl)) (pe_glob (v := .str "abcdefghijklmnopqrstuvwxyz") rfl T.g_SMALL ⟨_, rfl⟩) (by rfl))))))
 (pss_one (ps_fldaug (pv 0) pe_int in_add)))
 (pss_one (ps_ret (pe_slice sl_str (pe_fld (pv 0) rfl) (po_some (pv 2)) (po_some (pe_fld (pv 0) rfl)))))))), ?_⟩
    try simp only [cxK, smalls_eq]
    lcg_off
    refine rd_whileN (fun m σ H2 => ∃ (j : Nat) (F2 : Hp), m = t.length - (st.i + j) ∧ j ≤ n ∧ st.i + j ≤ t.length ∧ word n st.rest = st.rest.take j ++ word (n - j) (st.rest.drop j) ∧ j ≤ st.rest.length ∧ RdAt a K F0 H0 F2 H2 p dx nq rq t (st.go j) ∧ σ = [some (.ref p), some (.int (n : Nat)), some (.int (st.i : Nat))])
      _ ⟨0, F, rfl, Nat.zero_le _, hi, by simp, Nat.zero_le _, R, rfl⟩ ?_
    rintro m σ H2 ⟨j, F2, rfl, hj, hij, he, hjr, R2, rfl⟩
    have hs2 := R2.slf
    have fin : word (n - j) (st.rest.drop j) = [] → tRet (tSl rSlS (tFld K (tVar 0) (Str.ofString "text")) (tPart (tVar 2)) (tPart (tFld K (tVar 0) (Str.ofString "at")))) { nx := fun x H' => Q V.non H', rt := Q } [some (.ref p), some (.int (n : Nat)), some (.int (st.i : Nat))] H2 := by
      intro h0
      lcg_off
      refine rd_cutTx (by omega) (by omega) (show (st.go j).i ≤ t.length from hij) ?_
      rw [h0, List.append_nil] at he
      have hjl : (word n st.rest).length = j := by rw [he, List.length_take]; omega
      have e2 : (t.drop st.i).take ((st.go j).i - st.i) = (mLetters n st).1 := by
        show (t.drop st.i).take (st.i + j - st.i) = word n st.rest
        rw [Nat.add_sub_cancel_left, R.tr, he]
      rw [e2]
      refine k F2 H2 ?_
      show RdAt a K F0 H0 F2 H2 p dx nq rq t (st.go (word n st.rest).length)
      rw [hjl]
      exact R2
    lcg_off
    refine ifD (fun c1 => ?_) (fun c1 => ?_)
    · lcg_off
      have c1' : st.i + j < t.length := by
        have z : ((st.i + j : Nat) : Int) < (t.length : Int) := c1
        omega
      refine ifD (fun c2 => ?_) (fun c2 => ?_)
      · have c2' : ((st.i + j : Nat) : Int) < (st.i : Int) + (n : Int) := c2
        have hd2 := R2.tr
        have hrl : st.rest.length = t.length - st.i := by rw [← R.tr, List.length_drop]
        obtain ⟨c, r, hcr⟩ : ∃ c r, st.rest.drop j = c :: r := by
          cases h : st.rest.drop j with
          | nil =>
            have := List.drop_eq_nil_iff.mp h
            omega
          | cons c r => exact ⟨c, r, rfl⟩
        have hd3 : t.drop (st.i + j) = c :: r := hd2.trans hcr
        lcg_off
        refine rd_ixTx (by omega) (rest_at hd3) ?_
        lcg_off
        obtain ⟨n', hn'⟩ : ∃ n', n - j = n' + 1 := ⟨n - j - 1, by omega⟩
        refine ifD (fun c3 => ?_) (fun c3 => ?_)
        · refine ⟨_, fun _ _ z => z, ?_⟩
          lcg_off
          have hm := R2.move 1 (show (st.go j).i + 1 ≤ t.length by show st.i + j + 1 ≤ t.length; omega)
          rw [go_go] at hm
          have e3 : st.rest.drop (j + 1) = r := by rw [← List.drop_drop, hcr]; rfl
          refine ⟨t.length - (st.i + j + 1), by omega, j + 1, F2, rfl, by omega, by omega, ?_, by omega, hm, rfl⟩
          rw [he, hn', hcr, word_step c3, e3, show n - (j + 1) = n' by omega]
          have e4 : st.rest.take (j + 1) = st.rest.take j ++ [c] := by
            have e5 : st.rest[j]? = some c := by
              have := List.getElem?_drop (xs := st.rest) (i := j) (j := 0)
              rw [hcr] at this
              simpa using this.symm
            rw [List.take_add_one, e5]
            rfl
          rw [e4]
          simp
        · exact fin (by rw [hcr]; exact word_stop c3)
      · refine iteF ?_
        have : n - j = 0 := by
          have c2' : ¬ ((st.i + j : Nat) : Int) < (st.i : Int) + (n : Int) := c2
          omega
        exact fin (by rw [this]; rfl)
    · refine iteF ?_
      have c1' : ¬ ((st.i + j : Nat) : Int) < (t.length : Int) := c1
      have hrl : st.rest.length = t.length - st.i := by rw [← R.tr, List.length_drop]
      exact fin (by rw [List.drop_eq_nil_of_le (by omega)]; exact word_end)
def sp_Reader_class_name (a : Ad) (K : PySem.W.Frag) : Sp := fun vs H Q E => ∃ (F0 H0 F : Hp) (p dx nq rq : Addr) (t : List Nat) (st : RS), vs = [.ref p] ∧ RdAt a K F0 H0 F H p dx nq rq t st ∧
  (∀ n st' F' H', mClass st = .ok (n, st') → RdAt a K F0 H0 F' H' p dx nq rq t st' → st.i < st'.i → st'.rows = st.rows → Q (.str (tx n)) H') ∧ (∀ i, mClass st = .error i → Bad a H0 E i)
theorem ok_Reader_class_name (T : Txt K mg a) : FnOk P w K mg base (CX P w) 5 a.f_Reader_class_name a.fd_Reader_class_name ["self"]  (sp_Reader_class_name a K) := by
  refine T.F_Reader_class_name.okX sc_Reader_class_name (fun vs H Q E h => ?_) (fun cdv A outer s H vs Q E hr h => ?_)
  · obtain ⟨_, _, _, _, _, _, _, _, _, rfl, _⟩ := h
    rfl
  · obtain ⟨F0, H0, F, p, dx, nq, rq, t, st, rfl, R, k1, k2⟩ := h
    have hs := R.slf
    have hl := R.len
    refine ⟨_, ((pss_cons (ps_set (i := 1) sc_Reader_class_name.nd rfl (Or.inl rfl) (pe_fld (pv 0) rfl))
 (pss_cons (ps_expr (pe_meth (pv 0) T.cl_Reader T.m_Reader_skip (ok_Reader_skip T) hr T.b_Reader_skip .nil (passes_call (takes_of rfl rfl rfl rfl) (fun _ _ _ _ h => h)) (pa_cons (pe_glob (v := .str "ABCDEFGHIJKLMNOPQRSTUVWXYZ") rfl T.g_CAPITAL ⟨_, rfl⟩) pa_nil)))
 (pss_cons (ps_expr (pe_meth (pv 0) T.cl_Reader T.m_Reader_letters (ok_Reader_letters T) (hr.mono (by decide)) T.b_Reader_letters .nil pass0 (pa_cons (pe_op op_sub (pe_glob (v := .int 8) rfl T.g_LONGEST ⟨_, rfl⟩) pe_int) pa_nil)))
 (pss_one (ps_ret (pe_slice sl_str (pe_fld (pv 0) rfl) (po_some (pv 1)) (po_some (pe_fld (pv 0) rfl))))))))), ?_⟩
    try simp only [cxK, capitals_eq]
    lcg_off
    refine ⟨F0, H0, F, p, dx, nq, rq, t, st, capitals, rfl, R, fun st1 F1 H1 hm R1 hi1 => ?_, fun i hm => k2 i (by unfold mClass; rw [hm])⟩
    have hs1 := R1.slf
    have e1 : st1 = st.go 1 := by
      unfold mSkip at hm
      split at hm
      · split at hm
        · cases hm; rfl
        · cases hm
      · cases hm
    lcg_off
    refine ⟨F0, H0, F1, p, dx, nq, rq, t, st1, 7, rfl, R1, fun F2 H2 R2 => ?_⟩
    have hs2 := R2.slf
    have hi2 := R2.ti
    lcg_off
    refine rd_cutTx (by omega) R.ti hi2 ?_
    have e2 : (t.drop st.i).take ((mLetters 7 st1).2.i - st.i) = st.rest.take (1 + (word 7 st1.rest).length) := by
      rw [R.tr]
      congr 1
      show st1.i + (word 7 st1.rest).length - st.i = _
      omega
    rw [e2]
    refine k1 _ _ F2 H2 (by unfold mClass; rw [hm]) R2 ?_ (by subst e1; rfl)
    show st.i < st1.i + _
    omega
end
end Ex

namespace Ex
open PySem L2 Hk
local macro_rules | `(tactic| array_mem_dec) => `(tactic| with_reducible first
  | assumption | exact upd_same
  | (apply upd_new; assumption; array_mem_dec)
  | (apply upd_old; tlg_ne; array_mem_dec)
  | (apply same_at; assumption; array_mem_dec))
local macro_rules | `(tactic| tlg_ne) => `(tactic| with_reducible first
  | assumption | (apply Ne.symm; assumption)
  | (apply ne_new; assumption; array_mem_dec) | (apply ne_new'; assumption; array_mem_dec)
  | (apply ne_of; assumption; assumption; (with_unfolding_all (intro z; cases z; done))))
local macro_rules | `(tactic| decreasing_trivial_pre_omega) => `(tactic| with_reducible first
  | assumption | (apply sqL_of; array_mem_dec) | (apply sqT_of; array_mem_dec)
  | (apply Same.seq; assumption; decreasing_trivial_pre_omega) | (apply sqT_same; assumption; decreasing_trivial_pre_omega)
  | (apply sqL_new; assumption; decreasing_trivial_pre_omega) | (apply sqL_upd; tlg_ne; decreasing_trivial_pre_omega))
local macro_rules | `(tactic| kpt_turns) => `(tactic| with_reducible first
  | assumption | exact Same.refl _ | (apply same_ext; kpt_turns; assumption) | (apply same_mut; kpt_turns; keq_hits) | (apply same_step; assumption; kpt_turns))
local macro_rules | `(tactic| keq_hits) => `(tactic| with_reducible first | assumption | (apply same_none; assumption; keq_hits))
local macro_rules | `(tactic| sizeOf_list_dec) => `(tactic| first | (with_reducible assumption) | (with_reducible_and_instances omega) | (with_unfolding_all decide))
local macro_rules | `(tactic| array_get_dec) => `(tactic| first | (with_reducible assumption) | (apply sz_of; (with_unfolding_all simp); done) | (apply sz_of; omega) | (apply sz_lt; (with_unfolding_all simp); done) | (apply sz_lt; omega))
local macro_rules | `(tactic| keq_rows) => `(tactic| with_reducible first
  | apply rd_asgN | apply rd_seq | apply rd_parA | apply rd_par3A | apply rd_par2 | apply rd_par3 | apply rd_m1 | apply rd_isStr | apply rd_cval | apply rd_asg | apply rd_gname | apply rd_op | (show tVar _ _ _ _; refine rd_var (by with_unfolding_all rfl) ?_) | apply rd_c | apply rd_I0
  | apply rd_cons | apply rd_nil | apply rd_cb | apply rd_test | apply rd_bl | apply rd_fld | apply rd_drop | apply rd_ret | apply rd_retN | apply rd_next
  | apply rd_ifS | apply rd_un | apply rd_B | apply rd_and | apply rd_or | apply rd_not | apply rd_andV | apply rd_orV | apply rd_notV | apply rd_if
  | apply rd_int | apply rd_abs | apply rd_max | apply rd_min | apply rd_strS | apply rd_U
  | apply rd_eqTx | apply rd_neTx | apply rd_inTx | apply rd_notInTx | apply rd_fmt | (show FmtK (.str (tx _)) _ _; refine rd_fmtT (by omega) ?_) | apply rd_jsC | apply rd_jsN | (show JsK _ (tx _) _ (.str (tx _)) _ _; refine rd_JsK (by first | omega | (simp; done) | (simp; omega)) ?_) | (show rAddStr (.str (tx _)) (.str (tx _)) _ _; refine rd_addT (by first | omega | (simp; done) | (simp; omega)) ?_) | (show rLenStr [.str (tx _)] _ _; refine rd_lenTx (by omega) ?_)
  | (show rEq _ _ _ _; refine rd_eq (by with_unfolding_all rfl) ?_) | (show rNe _ _ _ _; refine rd_ne (by with_unfolding_all rfl) ?_) | apply rd_isNone | apply rd_notNone
  | (show rIxL _ _ _ _ _; refine rd_ixL (by decreasing_trivial_pre_omega) (by with_unfolding_all rfl) ?_) | (show rIxT _ _ _ _ _; refine rd_ixT (by decreasing_trivial_pre_omega) (by with_unfolding_all rfl) ?_)
  | (show rLenSeq _ _ _ _; refine rd_lenL (by decreasing_trivial_pre_omega) ?_) | (show rLenSeq _ _ _ _; refine rd_lenT (by decreasing_trivial_pre_omega) ?_)
  | (show rI _ _ _ _ _ _; refine rd_mod (by sizeOf_list_dec) ?_) | (show rI _ _ _ _ _ _; refine rd_div (by sizeOf_list_dec) (by sizeOf_list_dec) ?_) | (show rI _ _ _ _ _ _; refine rd_mulR (by sizeOf_list_dec) (by sizeOf_list_dec) ?_) | (show rI _ _ _ _ _ _; refine rd_mulL (by sizeOf_list_dec) (by sizeOf_list_dec) ?_) | (show rI _ _ _ _ _ _; refine rd_pow (by sizeOf_list_dec) ?_)
  | (show rSetL _ _ _ _ _; refine rd_setL (by array_mem_dec) (by with_unfolding_all rfl) ?_)
  | apply rd_inSign | apply rd_notInSign | apply rd_tupK | apply rd_lstK | apply rd_sl | apply rd_noPart | apply rd_part | apply rd_isInt
  | apply rd_gsub | apply rd_gcons | apply rd_gnil | apply rd_call | apply rd_meth | apply rd_make | apply rd_smeth | apply rd_isC | apply rd_smethK | apply rd_cmeth | apply rd_cmethK
  | apply rd_bm | apply rd_bm0 | (show BmK _ _ _ _ _ _ _ _; refine rd_bmL (by array_mem_dec) ?_) | (show Bm0K _ _ _ _ _ _; refine rd_bm0L (by array_mem_dec) ?_) | apply rd_sfld | apply rd_aug | apply rd_rAdd | apply rd_brk | apply rd_cont
  | apply rd_for | apply rd_iList | (show IList _ _ _ _; refine rd_IList (by decreasing_trivial_pre_omega) ?_) | apply rd_iTup | (show ITup _ _ _ _; refine rd_ITup (by decreasing_trivial_pre_omega) ?_) | apply rd_iEnum | (show IEnum _ _ _ _; refine rd_IEnum (by decreasing_trivial_pre_omega) ?_) | apply rd_iRng1 | (show IRng1 _ _ _; refine rd_IRng1 (by sizeOf_list_dec) (by sizeOf_list_dec) ?_)
  | (show rLenStr _ _ _; refine rd_lenS (by array_get_dec) ?_) | (show rAddStr _ _ _ _; refine rd_addS (by array_get_dec) ?_) | (show rSlS _ _ _ _ _; refine rd_slS (by array_get_dec) ?_) | apply rd_lc | apply rd_yes | (show gTup _ _ _ _ _ _ _; refine rd_gtup (by decreasing_trivial_pre_omega) (by with_unfolding_all rfl) ?_) | (show tMakeL _ _ _ _ _ _ _ _; refine rd_makeL (by with_unfolding_all rfl) ?_))
local macro_rules | `(tactic| kas_types) => `(tactic| with_reducible first | apply rd_isi_int_int | apply rd_isi_int_bool | apply rd_isi_int_str | apply rd_isi_int_list | apply rd_isi_int_tuple | apply rd_isi_bool_int | apply rd_isi_bool_bool | apply rd_isi_bool_str | apply rd_isi_bool_list | apply rd_isi_bool_tuple | apply rd_isi_str_int | apply rd_isi_str_bool | apply rd_isi_str_str | apply rd_isi_str_list | apply rd_isi_str_tuple | (show rIsi _ _ _ _; refine rd_isi_list_int (by array_mem_dec) ?_) | (show rIsi _ _ _ _; refine rd_isi_list_bool (by array_mem_dec) ?_) | (show rIsi _ _ _ _; refine rd_isi_list_str (by array_mem_dec) ?_) | (show rIsi _ _ _ _; refine rd_isi_list_list (by array_mem_dec) ?_) | (show rIsi _ _ _ _; refine rd_isi_list_tuple (by array_mem_dec) ?_) | (show rIsi _ _ _ _; refine rd_isi_tuple_int (by array_mem_dec) ?_) | (show rIsi _ _ _ _; refine rd_isi_tuple_bool (by array_mem_dec) ?_) | (show rIsi _ _ _ _; refine rd_isi_tuple_str (by array_mem_dec) ?_) | (show rIsi _ _ _ _; refine rd_isi_tuple_list (by array_mem_dec) ?_) | (show rIsi _ _ _ _; refine rd_isi_tuple_tuple (by array_mem_dec) ?_) | apply rd_isi_NoneType_int | apply rd_isi_NoneType_bool | apply rd_isi_NoneType_str | apply rd_isi_NoneType_list | apply rd_isi_NoneType_tuple)
local macro_rules | `(tactic| lcg_src) => `(tactic| repeat keq_rows)

local macro_rules | `(tactic| lcg_sub) => `(tactic| with_reducible first | refine fldR_at (by assumption) (by array_mem_dec) ?_ | refine fldR_text (by assumption) (by array_mem_dec) ?_ | refine fldR_nested (by assumption) (by array_mem_dec) ?_ | refine fldR_rows (by assumption) (by array_mem_dec) ?_ | refine augR_at (by assumption) (by array_mem_dec) ?_ | refine methR (by array_mem_dec) (by decide +kernel) (by decide +kernel) (by decide +kernel) (by decide +kernel) ?_ | refine rd_raiseO ?_)
local macro_rules | `(tactic| lcg_off) => `(tactic| repeat (first | keq_rows | lcg_sub))
theorem nil_tx : Str.ofString "" = tx [] := by decide +kernel
theorem firsts_tx : Str.ofString "+-*/&|^<>" = tx firsts := by decide +kernel
theorem twos_tx : Str.ofString "/<>" = tx twos := by decide +kernel
theorem mSkip_go {l : List Nat} {st st' : RS} (h : mSkip l st = .ok st') : st' = st.go 1 ∧ ∃ c r, st.rest = c :: r ∧ c ∈ l := by
  unfold mSkip at h
  split at h
  · rename_i c r e
    split at h
    · rename_i hc
      cases h
      exact ⟨rfl, c, r, e, hc⟩
    · cases h
  · cases h
theorem mClass_go {st st' : RS} {n : List Nat} (h : mClass st = .ok (n, st')) : st'.rows = st.rows ∧ st'.ns = st.ns ∧ st.i < st'.i := by
  unfold mClass at h
  split at h
  · cases h
  · rename_i st1 e
    obtain ⟨rfl, _⟩ := mSkip_go e
    cases h
    refine ⟨rfl, rfl, ?_⟩
    show st.i < st.i + 1 + _
    omega
theorem unaries_eq : ([V.str "neg", V.str "pos", V.str "abs", V.str "invert"] : List V) = unaries.map wd := by decide +kernel
section
variable {P : Program} {w : World} {K : PySem.W.Frag} {mg : Str → Option Value} {base : Heap} {a : Ad}
def sp_Reader_read_request (a : Ad) (K : PySem.W.Frag) : Sp := fun vs H Q E => ∃ (F0 H0 F : Hp) (p dx nq rq : Addr) (t : List Nat) (st : RS), vs = [.ref p] ∧ RdAt a K F0 H0 F H p dx nq rq t st ∧
  (∀ st' F' H', mRequest st = .ok st' → RdAt a K F0 H0 F' H' p dx nq rq t st' → st.i < st'.i → Q .non H') ∧ (∀ i, mRequest st = .error i → Bad a H0 E i)
theorem ok_Reader_read_request (T : Txt K mg a) : FnOk P w K mg base (CX P w) 6 a.f_Reader_read_request a.fd_Reader_read_request ["self"]  (sp_Reader_read_request a K) := by
  refine T.F_Reader_read_request.okX sc_Reader_read_request (fun vs H Q E h => ?_) (fun cdv A outer s H vs Q E hr h => ?_)
  · obtain ⟨_, _, _, _, _, _, _, _, _, rfl, _⟩ := h
    rfl
  · obtain ⟨F0, H0, F, p, dx, nq, rq, t, st, rfl, R, k1, k2⟩ := h
    have hs := R.slf
    have hl := R.len
    have hrl := R.rl
    have hqU := T.q_UNARY_SIGNS
    rw [unaries_eq] at hqU
    refine ⟨_, ((pss_cons (ps_set (i := 1) sc_Reader_read_request.nd rfl (Or.inl rfl) (pe_meth0 (pv 0) T.cl_Reader T.m_Reader_class_name (ok_Reader_class_name T) hr T.b_Reader_class_name .nil (passes_call (takes_of rfl rfl rfl rfl) (fun _ _ _ _ h => h))))
 (pss_cons (ps_expr (pe_meth (pv 0) T.cl_Reader T.m_Reader_skip (ok_Reader_skip T) (hr.mono (by decide)) T.b_Reader_skip .nil (passes_call (takes_of rfl rfl rfl rfl) (fun _ _ _ _ h => h)) (pa_cons pe_str pa_nil)))
 (pss_cons (ps_set (i := 2) sc_Reader_read_request.nd rfl (Or.inl rfl) (pe_meth (pv 0) T.cl_Reader T.m_Reader_letters (ok_Reader_letters T) (hr.mono (by decide)) T.b_Reader_letters .nil pass0 (pa_cons (pe_glob (v := .int 8) rfl T.g_LONGEST ⟨_, rfl⟩) pa_nil)))
 (pss_cons (ps_if (PW.pt (pw_or (pt_cmpR op_eq (pv 2) pe_str (nomark _)) (pw_or1 (pt_cmpR op_in_seq (pv 2) (pe_glob (v := .ref _) rfl T.g_UNARY_SIGNS rfl) (by rfl)))))
 (pss_one (ps_raiseO rfl (takes_of rfl rfl rfl rfl) T.ox_BadExpression T.m_BadExpression_init.at_ T.xt_BadExpression (ok_BadExpression_init T) (hr.mono (by decide)) T.b_BadExpression_init pass0 rfl T.g_BadExpression (pa_cons (pe_fld (pv 0) rfl) pa_nil)))
 pss_nil)
 (pss_one (ps_expr (pe_bm PySem.F.plainAttrs_list PySem.F.slot_list_append PySem.F.type_list_append mt_append (pe_fld (pv 0) rfl) (pa_cons (pe_tup (pa_cons (pe_glob (v := .str "asked") rfl T.g_ASKED ⟨_, rfl⟩) (pa_cons (pv 2) (pa_cons (pv 1) pa_nil)))) pa_nil))))))))), ?_⟩
    try simp only [cxK, dot_tx, nil_tx]
    lcg_off
    refine ⟨F0, H0, F, p, dx, nq, rq, t, st, rfl, R, fun n st1 F1 H1 h1 R1 hi1 hr1 => ?_, fun i e => k2 i (by unfold mRequest; rw [e])⟩
    have hs1 := R1.slf
    lcg_off
    refine ⟨F0, H0, F1, p, dx, nq, rq, t, st1, [46], rfl, R1, fun st2 F2 H2 h2 R2 hi2 => ?_, fun i e => k2 i (by unfold mRequest; rw [h1]; simp only; rw [e])⟩
    have hs2 := R2.slf
    obtain ⟨e2, _⟩ := mSkip_go h2
    lcg_off
    refine ⟨F0, H0, F2, p, dx, nq, rq, t, st2, 8, rfl, R2, fun F3 H3 R3 => ?_⟩
    have hs3 := R3.slf
    have hbad : (mLetters 8 st2).1 = [] ∨ (mLetters 8 st2).1 ∈ unaries → RaiseK a.C_BadExpression (sp_err1 a.C_BadExpression "at") [.int ((mLetters 8 st2).2.i : Nat)] H3 fun cls d H' => E cls d H' := by
      intro c
      refine rd_err1 fun d H' z1 z2 z3 => ?_
      exact k2 (mLetters 8 st2).2.i (by unfold mRequest; rw [h1]; simp only; rw [h2]; simp only; rw [if_pos c]) d H' (R3.gr.same.trans z2) (R3.gr.same.free z1) z3
    lcg_off
    refine ifD (fun c => ?_) (fun c => ?_)
    · refine iteT ?_
      lcg_off
      exact hbad (.inl c)
    · lcg_off
      refine rd_inWT (hqU _) ?_
      lcg_off
      refine ifD (fun c2 => ?_) (fun c2 => ?_)
      · lcg_off
        exact hbad (.inr c2)
      · lcg_off
        obtain ⟨ys, hy, hR⟩ := R3.rws
        have hyl : ys.length = st2.rows.length := by simpa [mLetters, RS.go] using hR.length
        have hrl3 := R3.rl
        have hti := R3.ti
        refine rd_bmL hy.h ?_
        lcg_off
        refine newTD (K := K) R3.gr.fh (flAll_mk (ds := [.str "asked", .str (tx (mLetters 8 st2).1), .str (tx n)]) rfl) fun F4 H4 T4 g4 n4 e4 => ?_
        have R4 := R3.beside g4
        have hy4 := g4.same _ _ hy.h
        lcg_off
        have hrl4 : st2.rows.length ≤ (mLetters 8 st2).2.i := hrl3
        refine rd_append hy4 (sz_lt (by omega)) ?_
        have e22 : st2.rows = st.rows := by rw [e2, ← hr1]; rfl
        have hii : st.i < (mLetters 8 st2).2.i := by
          show st.i < st2.i + _
          omega
        refine k1 _ F4 _ (by unfold mRequest; rw [h1]; simp only; rw [h2]; simp only; rw [if_neg (by rintro (z | z); exact c z; exact c2 z)]; rfl) (R4.row (r := .asked (mLetters 8 st2).1 n) hy4 e4 ?_) hii
        show st2.rows.length < _
        rw [e22]
        omega
def sp_Reader_go_in (a : Ad) (K : PySem.W.Frag) : Sp := fun vs H Q E => ∃ (F0 H0 F : Hp) (p dx nq rq : Addr) (t : List Nat) (st : RS) (sg : List Nat) (n : Nat), vs = [.ref p, .str (tx sg), .int (n : Nat)] ∧ RdAt a K F0 H0 F H p dx nq rq t st ∧ okT sg ∧ st.rest ≠ [] ∧
  (∀ st' F' H', mGoIn sg n st = .ok st' → RdAt a K F0 H0 F' H' p dx nq rq t st' → Q .non H') ∧ (∀ i, mGoIn sg n st = .error i → Bad a H0 E i)
theorem ok_Reader_go_in (T : Txt K mg a) : FnOk P w K mg base (CX P w) 3 a.f_Reader_go_in a.fd_Reader_go_in ["self", "sign", "many"]  (sp_Reader_go_in a K) := by
  refine T.F_Reader_go_in.okX sc_Reader_go_in (fun vs H Q E h => ?_) (fun cdv A outer s H vs Q E hr h => ?_)
  · obtain ⟨_, _, _, _, _, _, _, _, _, _, _, rfl, _⟩ := h
    rfl
  · obtain ⟨F0, H0, F, p, dx, nq, rq, t, st, sg, n, rfl, R, hok, hne, k1, k2⟩ := h
    have hs := R.slf
    obtain ⟨xs, hx, hxs⟩ := R.nest
    have hxl : xs.length = st.ns.length := by simpa using hxs.length
    obtain ⟨c, r, hc⟩ := List.exists_cons_of_ne_nil hne
    have hlt : st.i < t.length := rest_lt (R.tr.trans hc)
    refine ⟨_, ((pss_cons (ps_if (pt_cmpR op_ge (pe_callB call_lenSeq (by rfl) T.n_len (by decide +kernel) (pa_cons (pe_fld (pv 0) rfl) pa_nil)) (pe_glob (v := .int 100) rfl T.g_MOST ⟨_, rfl⟩) (nomark _))
 (pss_one (ps_raiseO rfl (takes_of rfl rfl rfl rfl) T.ox_BadExpression T.m_BadExpression_init.at_ T.xt_BadExpression (ok_BadExpression_init T) hr T.b_BadExpression_init pass0 rfl T.g_BadExpression (pa_cons (pe_fld (pv 0) rfl) pa_nil)))
 pss_nil)
 (pss_cons (ps_expr (pe_bm PySem.F.plainAttrs_list PySem.F.slot_list_append PySem.F.type_list_append mt_append (pe_fld (pv 0) rfl) (pa_cons (pe_tup (pa_cons (pv 1) (pa_cons (pv 2) pa_nil))) pa_nil)))
 (pss_one (ps_fldaug (pv 0) pe_int in_add))))), ?_⟩
    try simp only [cxK]
    lcg_off
    refine rd_lenL (sqL_of hx.h) ?_
    lcg_off
    refine ifD (fun c => ?_) (fun c => ?_)
    · lcg_off
      refine rd_err1 fun d H' z1 z2 z3 => ?_
      exact k2 st.i (by unfold mGoIn; rw [if_pos (by omega)]) d H' (R.gr.same.trans z2) (R.gr.same.free z1) z3
    · lcg_off
      refine rd_bmL hx.h ?_
      lcg_off
      refine newTD (K := K) R.gr.fh (flAll_mk (ds := [.str (tx sg), .int (n : Nat)]) rfl) fun F4 H4 T4 g4 n4 e4 => ?_
      have R4 := R.beside g4
      have hx4 := g4.same _ _ hx.h
      lcg_off
      refine rd_append hx4 (sz_lt (by omega)) ?_
      have R5 := R4.nesting (zs := xs ++ [.ref T4]) (ns := st.ns ++ [(sg, n)]) (by rw [List.map_append]; exact (hxs.mono g4.ff).snoc e4) (by simp; omega) (fun x hx => by
        rcases List.mem_append.mp hx with z | z
        · exact R.nk x z
        · rw [List.mem_singleton.mp z]; exact hok)
      have hs5 := R5.slf
      lcg_off
      exact k1 _ F4 _ (by unfold mGoIn; rw [if_neg (by omega)]; rfl) (R5.move 1 (by show st.i + 1 ≤ _; omega))
theorem mOpen_true {x : Except Nat RS} {b : Bool} {s : RS} (h : mTrue x = .ok (b, s)) : b = true ∧ x = .ok s := by
  unfold mTrue at h
  split at h
  · cases h
  · cases h; exact ⟨rfl, rfl⟩
def sp_Reader_is_opened (a : Ad) (K : PySem.W.Frag) : Sp := fun vs H Q E => ∃ (F0 H0 F : Hp) (p dx nq rq : Addr) (t : List Nat) (st : RS), vs = [.ref p] ∧ RdAt a K F0 H0 F H p dx nq rq t st ∧
  (∀ b st' F' H', mOpen st = .ok (b, st') → RdAt a K F0 H0 F' H' p dx nq rq t st' → st.i < st'.i → Q (.bl b) H') ∧ (∀ i, mOpen st = .error i → Bad a H0 E i)
theorem ok_Reader_is_opened (T : Txt K mg a) : FnOk P w K mg base (CX P w) 7 a.f_Reader_is_opened a.fd_Reader_is_opened ["self"]  (sp_Reader_is_opened a K) := by
  refine T.F_Reader_is_opened.okX sc_Reader_is_opened (fun vs H Q E h => ?_) (fun cdv A outer s H vs Q E hr h => ?_)
  · obtain ⟨_, _, _, _, _, _, _, _, _, rfl, _⟩ := h
    rfl
  · obtain ⟨F0, H0, F, p, dx, nq, rq, t, st, rfl, R, k1, k2⟩ := h
    have hs := R.slf
    have hl := R.len
    have hrl := R.rl
    have hqU := T.q_UNARY_SIGNS
    rw [unaries_eq] at hqU
    refine ⟨_, ((pss_cons (ps_set (i := 1) sc_Reader_is_opened.nd rfl (Or.inl rfl) (pe_meth0 (pv 0) T.cl_Reader T.m_Reader_here (ok_Reader_here T) (hr.mono (by decide)) T.b_Reader_here .nil (passes_call (takes_of rfl rfl rfl rfl) (fun _ _ _ _ h => h))))
 (pss_cons (ps_if (pt_cmpR op_eq (pv 1) pe_str (nomark _))
 (pss_cons (ps_expr (pe_meth (pv 0) T.cl_Reader T.m_Reader_go_in (ok_Reader_go_in T) (hr.mono (by decide)) T.b_Reader_go_in .nil (passes_call (takes_of rfl rfl rfl rfl) (fun _ _ _ _ h => h)) (pa_cons pe_str (pa_cons pe_int pa_nil))))
 (pss_one (ps_ret pe_bl)))
 pss_nil)
 (pss_cons (ps_if (pt_cmpR op_inSign (pv 1) (pe_glob (v := .str "ABCDEFGHIJKLMNOPQRSTUVWXYZ") rfl T.g_CAPITAL ⟨_, rfl⟩) (by rfl))
 (pss_cons (ps_expr (pe_meth0 (pv 0) T.cl_Reader T.m_Reader_read_request (ok_Reader_read_request T) hr T.b_Reader_read_request .nil (passes_call (takes_of rfl rfl rfl rfl) (fun _ _ _ _ h => h))))
 (pss_one (ps_ret pe_bl)))
 pss_nil)
 (pss_cons (ps_set (i := 2) sc_Reader_is_opened.nd rfl (Or.inl rfl) (pe_meth (pv 0) T.cl_Reader T.m_Reader_letters (ok_Reader_letters T) (hr.mono (by decide)) T.b_Reader_letters .nil pass0 (pa_cons (pe_glob (v := .int 8) rfl T.g_LONGEST ⟨_, rfl⟩) pa_nil)))
 (pss_cons (ps_if (pt_cmpR op_eq (pv 2) pe_str (nomark _))
 (pss_one (ps_raiseO rfl (takes_of rfl rfl rfl rfl) T.ox_BadExpression T.m_BadExpression_init.at_ T.xt_BadExpression (ok_BadExpression_init T) (hr.mono (by decide)) T.b_BadExpression_init pass0 rfl T.g_BadExpression (pa_cons (pe_fld (pv 0) rfl) pa_nil)))
 pss_nil)
 (Evl.pss_cut (ps_if (PW.pt (pw_and (pt_cmpR op_in_seq (pv 2) (pe_glob (v := .ref _) rfl T.g_UNARY_SIGNS rfl) (by rfl)) (pw_and1 (pt_cmpR op_eq (pe_meth0 (pv 0) T.cl_Reader T.m_Reader_here (ok_Reader_here T) (hr.mono (by decide)) T.b_Reader_here .nil (passes_call (takes_of rfl rfl rfl rfl) (fun _ _ _ _ h => h))) pe_str (nomark _)))))
 (pss_cons (ps_expr (pe_meth (pv 0) T.cl_Reader T.m_Reader_go_in (ok_Reader_go_in T) (hr.mono (by decide)) T.b_Reader_go_in .nil (passes_call (takes_of rfl rfl rfl rfl) (fun _ _ _ _ h => h)) (pa_cons (pv 2) (pa_cons pe_int pa_nil))))
 (pss_one (ps_ret pe_bl)))
 pss_nil)
 (pss_cons (ps_expr (pe_meth (pv 0) T.cl_Reader T.m_Reader_skip (ok_Reader_skip T) (hr.mono (by decide)) T.b_Reader_skip .nil (passes_call (takes_of rfl rfl rfl rfl) (fun _ _ _ _ h => h)) (pa_cons pe_str pa_nil)))
 (pss_cons (ps_expr (pe_bm PySem.F.plainAttrs_list PySem.F.slot_list_append PySem.F.type_list_append mt_append (pe_fld (pv 0) rfl) (pa_cons (pe_tup (pa_cons (pe_glob (v := .str "leaf") rfl T.g_LEAF ⟨_, rfl⟩) (pa_cons (pv 2) (pa_cons (pe_meth0 (pv 0) T.cl_Reader T.m_Reader_class_name (ok_Reader_class_name T) (hr.mono (by decide)) T.b_Reader_class_name .nil (passes_call (takes_of rfl rfl rfl rfl) (fun _ _ _ _ h => h))) pa_nil)))) pa_nil)))
 (pss_one (ps_ret pe_bl))))))))))), ?_⟩
    try simp only [cxK, colon_tx, nil_tx, open_tx, capitals_eq]
    lcg_off
    refine ⟨F0, H0, F, p, dx, nq, rq, t, st, rfl, R, fun c r hc => ?_, fun hc => k2 _ (by unfold mOpen; rw [hc])⟩
    lcg_off
    refine ifD (fun c1 => ?_) (fun c1 => ?_)
    · have c1' : c = 40 := by simpa using c1
      lcg_off
      refine ⟨F0, H0, F, p, dx, nq, rq, t, st, [], 2, rfl, R, (fun x hx => by cases hx), by rw [hc]; simp, fun st' F' H' hm R' => ?_, fun i hm => k2 i (by unfold mOpen; rw [hc]; simp only; rw [if_pos c1', hm]; rfl)⟩
      lcg_off
      refine k1 true st' F' H' (by unfold mOpen; rw [hc]; simp only; rw [if_pos c1', hm]; rfl) R' ?_
      unfold mGoIn at hm
      split at hm
      · cases hm
      · cases hm
        show st.i < st.i + 1
        omega
    · have c1' : ¬ c = 40 := by simpa using c1
      lcg_off
      refine ifD (fun c2 => ?_) (fun c2 => ?_)
      · lcg_off
        refine ⟨F0, H0, F, p, dx, nq, rq, t, st, rfl, R, fun st' F' H' hm R' hi' => ?_, fun i hm => k2 i (by unfold mOpen; rw [hc]; simp only; rw [if_neg c1', if_pos c2, hm]; rfl)⟩
        lcg_off
        exact k1 false st' F' H' (by unfold mOpen; rw [hc]; simp only; rw [if_neg c1', if_pos c2, hm]; rfl) R' hi'
      · lcg_off
        refine ⟨F0, H0, F, p, dx, nq, rq, t, st, 8, rfl, R, fun F1 H1 R1 => ?_⟩
        have hs1 := R1.slf
        lcg_off
        refine ifD (fun c3 => ?_) (fun c3 => ?_)
        · lcg_off
          refine rd_err1 fun d H' z1 z2 z3 => ?_
          have e0 : (mLetters 8 st).2.i = st.i := by
            show st.i + (mLetters 8 st).1.length = st.i
            rw [c3]
            rfl
          rw [e0] at z3
          exact k2 st.i (by unfold mOpen; rw [hc]; simp only; rw [if_neg c1', if_neg c2, if_pos c3]) d H' (R1.gr.same.trans z2) (R1.gr.same.free z1) z3
        · have hlen : 0 < (mLetters 8 st).1.length := List.length_pos_iff.mpr c3
          have hi1 : st.i < (mLetters 8 st).2.i := by
            show st.i < st.i + (mLetters 8 st).1.length
            omega
          refine rd_next ?_
          refine rd_cut (fun σ' H' => H' = H1 ∧ σ' = [some (.ref p), some (.str (tx [c])), some (.str (tx (mLetters 8 st).1))] ∧ mOpen st = mFalse (mLeaf (mLetters 8 st).1 (mLetters 8 st).2)) ?_ ?_
          · lcg_off
            refine rd_inWT (hqU _) ?_
            lcg_off
            refine ifD (fun c4 => ?_) (fun c4 => ?_)
            · lcg_off
              refine ⟨F0, H0, F1, p, dx, nq, rq, t, (mLetters 8 st).2, rfl, R1, fun c' r' hc' => ?_, fun hc' => k2 _ (by unfold mOpen; rw [hc]; simp only; rw [if_neg c1', if_neg c2, if_neg c3, if_pos c4, hc'])⟩
              lcg_off
              refine ifD (fun c5 => ?_) (fun c5 => ?_)
              · have c5' : c' = 40 := by simpa using c5
                lcg_off
                refine ⟨F0, H0, F1, p, dx, nq, rq, t, (mLetters 8 st).2, (mLetters 8 st).1, 1, rfl, R1, un_okT _ c4, by rw [hc']; simp, fun st' F' H' hm R' => ?_, fun i hm => k2 i (by unfold mOpen; rw [hc]; simp only; rw [if_neg c1', if_neg c2, if_neg c3, if_pos c4, hc']; simp only; rw [if_pos c5', hm]; rfl)⟩
                lcg_off
                refine k1 true st' F' H' (by unfold mOpen; rw [hc]; simp only; rw [if_neg c1', if_neg c2, if_neg c3, if_pos c4, hc']; simp only; rw [if_pos c5', hm]; rfl) R' ?_
                unfold mGoIn at hm
                split at hm
                · cases hm
                · cases hm
                  show st.i < (mLetters 8 st).2.i + 1
                  omega
              · have c5' : ¬ c' = 40 := by simpa using c5
                lcg_off
                refine ⟨rfl, rfl, ?_⟩
                unfold mOpen
                rw [hc]
                simp only
                rw [if_neg c1', if_neg c2, if_neg c3, if_pos c4, hc']
                simp only
                rw [if_neg c5']
            · refine iteF ?_
              lcg_off
              refine ⟨rfl, rfl, ?_⟩
              unfold mOpen
              rw [hc]
              simp only
              rw [if_neg c1', if_neg c2, if_neg c3, if_neg c4]
          · rintro σ' H' ⟨rfl, rfl, hO⟩
            lcg_off
            refine ⟨F0, H0, F1, p, dx, nq, rq, t, (mLetters 8 st).2, [58], rfl, R1, fun st2 F2 H2 h2 R2 hi2 => ?_, fun i e => k2 i (by rw [hO]; unfold mLeaf; rw [e]; rfl)⟩
            have hs2 := R2.slf
            obtain ⟨e2, _⟩ := mSkip_go h2
            obtain ⟨ys, hy, hR⟩ := R2.rws
            lcg_off
            refine rd_bmL hy.h ?_
            lcg_off
            refine ⟨F0, H0, F2, p, dx, nq, rq, t, st2, rfl, R2, fun n st3 F3 H3 h3 R3 hi3 hr3 => ?_, fun i e => k2 i (by rw [hO]; unfold mLeaf; rw [h2]; simp only; rw [e]; rfl)⟩
            obtain ⟨ys3, hy3, hR3⟩ := R3.rws
            have hyl3 : ys3.length = st3.rows.length := by simpa using hR3.length
            have hrl3 := R3.rl
            have hti3 := R3.ti
            lcg_off
            refine newTD (K := K) R3.gr.fh (flAll_mk (ds := [.str "leaf", .str (tx (mLetters 8 st).1), .str (tx n)]) rfl) fun F4 H4 T4 g4 n4 e4 => ?_
            have R4 := R3.beside g4
            have hy4 := g4.same _ _ hy3.h
            lcg_off
            refine rd_append hy4 (sz_lt (by omega)) ?_
            lcg_off
            have e23 : st3.rows = st.rows := by rw [hr3, e2]; rfl
            refine k1 false _ F4 _ (by rw [hO]; unfold mLeaf; rw [h2]; simp only; rw [h3]; rfl) (R4.row (r := .leaf (mLetters 8 st).1 n) hy4 e4 ?_) ?_
            · rw [e23]
              omega
            · show st.i < st3.i
              omega
end
end Ex

namespace Ex
open PySem L2 Hk
local macro_rules | `(tactic| array_mem_dec) => `(tactic| with_reducible first
  | assumption | exact upd_same
  | (apply upd_new; assumption; array_mem_dec)
  | (apply upd_old; tlg_ne; array_mem_dec)
  | (apply same_at; assumption; array_mem_dec))
local macro_rules | `(tactic| tlg_ne) => `(tactic| with_reducible first
  | assumption | (apply Ne.symm; assumption)
  | (apply ne_new; assumption; array_mem_dec) | (apply ne_new'; assumption; array_mem_dec)
  | (apply ne_of; assumption; assumption; (with_unfolding_all (intro z; cases z; done))))
local macro_rules | `(tactic| decreasing_trivial_pre_omega) => `(tactic| with_reducible first
  | assumption | (apply sqL_of; array_mem_dec) | (apply sqT_of; array_mem_dec)
  | (apply Same.seq; assumption; decreasing_trivial_pre_omega) | (apply sqT_same; assumption; decreasing_trivial_pre_omega)
  | (apply sqL_new; assumption; decreasing_trivial_pre_omega) | (apply sqL_upd; tlg_ne; decreasing_trivial_pre_omega))
local macro_rules | `(tactic| kpt_turns) => `(tactic| with_reducible first
  | assumption | exact Same.refl _ | (apply same_ext; kpt_turns; assumption) | (apply same_mut; kpt_turns; keq_hits) | (apply same_step; assumption; kpt_turns))
local macro_rules | `(tactic| keq_hits) => `(tactic| with_reducible first | assumption | (apply same_none; assumption; keq_hits))
local macro_rules | `(tactic| sizeOf_list_dec) => `(tactic| first | (with_reducible assumption) | (with_reducible_and_instances omega) | (with_unfolding_all decide))
local macro_rules | `(tactic| array_get_dec) => `(tactic| first | (with_reducible assumption) | (apply sz_of; (with_unfolding_all simp); done) | (apply sz_of; omega) | (apply sz_lt; (with_unfolding_all simp); done) | (apply sz_lt; omega))
local macro_rules | `(tactic| keq_rows) => `(tactic| with_reducible first
  | apply rd_asgN | apply rd_seq | apply rd_parA | apply rd_par3A | apply rd_par2 | apply rd_par3 | apply rd_m1 | apply rd_isStr | apply rd_cval | apply rd_asg | apply rd_gname | apply rd_op | (show tVar _ _ _ _; refine rd_var (by with_unfolding_all rfl) ?_) | apply rd_c | apply rd_I0
  | apply rd_cons | apply rd_nil | apply rd_cb | apply rd_test | apply rd_bl | apply rd_fld | apply rd_drop | apply rd_ret | apply rd_retN | apply rd_next
  | apply rd_ifS | apply rd_un | apply rd_B | apply rd_and | apply rd_or | apply rd_not | apply rd_andV | apply rd_orV | apply rd_notV | apply rd_if
  | apply rd_int | apply rd_abs | apply rd_max | apply rd_min | apply rd_strS | apply rd_U
  | apply rd_eqTx | apply rd_neTx | apply rd_inTx | apply rd_notInTx | apply rd_fmt | (show FmtK (.str (tx _)) _ _; refine rd_fmtT (by omega) ?_) | apply rd_jsC | apply rd_jsN | (show JsK _ (tx _) _ (.str (tx _)) _ _; refine rd_JsK (by first | omega | (simp; done) | (simp; omega)) ?_) | (show rAddStr (.str (tx _)) (.str (tx _)) _ _; refine rd_addT (by first | omega | (simp; done) | (simp; omega)) ?_) | (show rLenStr [.str (tx _)] _ _; refine rd_lenTx (by omega) ?_)
  | (show rEq _ _ _ _; refine rd_eq (by with_unfolding_all rfl) ?_) | (show rNe _ _ _ _; refine rd_ne (by with_unfolding_all rfl) ?_) | apply rd_isNone | apply rd_notNone
  | (show rIxL _ _ _ _ _; refine rd_ixL (by decreasing_trivial_pre_omega) (by with_unfolding_all rfl) ?_) | (show rIxT _ _ _ _ _; refine rd_ixT (by decreasing_trivial_pre_omega) (by with_unfolding_all rfl) ?_)
  | (show rLenSeq _ _ _ _; refine rd_lenL (by decreasing_trivial_pre_omega) ?_) | (show rLenSeq _ _ _ _; refine rd_lenT (by decreasing_trivial_pre_omega) ?_)
  | (show rI _ _ _ _ _ _; refine rd_mod (by sizeOf_list_dec) ?_) | (show rI _ _ _ _ _ _; refine rd_div (by sizeOf_list_dec) (by sizeOf_list_dec) ?_) | (show rI _ _ _ _ _ _; refine rd_mulR (by sizeOf_list_dec) (by sizeOf_list_dec) ?_) | (show rI _ _ _ _ _ _; refine rd_mulL (by sizeOf_list_dec) (by sizeOf_list_dec) ?_) | (show rI _ _ _ _ _ _; refine rd_pow (by sizeOf_list_dec) ?_)
  | (show rSetL _ _ _ _ _; refine rd_setL (by array_mem_dec) (by with_unfolding_all rfl) ?_)
  | apply rd_inSign | apply rd_notInSign | apply rd_tupK | apply rd_lstK | apply rd_sl | apply rd_noPart | apply rd_part | apply rd_isInt
  | apply rd_gsub | apply rd_gcons | apply rd_gnil | apply rd_call | apply rd_meth | apply rd_make | apply rd_smeth | apply rd_isC | apply rd_smethK | apply rd_cmeth | apply rd_cmethK
  | apply rd_bm | apply rd_bm0 | (show BmK _ _ _ _ _ _ _ _; refine rd_bmL (by array_mem_dec) ?_) | (show Bm0K _ _ _ _ _ _; refine rd_bm0L (by array_mem_dec) ?_) | apply rd_sfld | apply rd_aug | apply rd_rAdd | apply rd_brk | apply rd_cont
  | apply rd_for | apply rd_iList | (show IList _ _ _ _; refine rd_IList (by decreasing_trivial_pre_omega) ?_) | apply rd_iTup | (show ITup _ _ _ _; refine rd_ITup (by decreasing_trivial_pre_omega) ?_) | apply rd_iEnum | (show IEnum _ _ _ _; refine rd_IEnum (by decreasing_trivial_pre_omega) ?_) | apply rd_iRng1 | (show IRng1 _ _ _; refine rd_IRng1 (by sizeOf_list_dec) (by sizeOf_list_dec) ?_)
  | (show rLenStr _ _ _; refine rd_lenS (by array_get_dec) ?_) | (show rAddStr _ _ _ _; refine rd_addS (by array_get_dec) ?_) | (show rSlS _ _ _ _ _; refine rd_slS (by array_get_dec) ?_) | apply rd_lc | apply rd_yes | (show gTup _ _ _ _ _ _ _; refine rd_gtup (by decreasing_trivial_pre_omega) (by with_unfolding_all rfl) ?_) | (show tMakeL _ _ _ _ _ _ _ _; refine rd_makeL (by with_unfolding_all rfl) ?_))
local macro_rules | `(tactic| kas_types) => `(tactic| with_reducible first | apply rd_isi_int_int | apply rd_isi_int_bool | apply rd_isi_int_str | apply rd_isi_int_list | apply rd_isi_int_tuple | apply rd_isi_bool_int | apply rd_isi_bool_bool | apply rd_isi_bool_str | apply rd_isi_bool_list | apply rd_isi_bool_tuple | apply rd_isi_str_int | apply rd_isi_str_bool | apply rd_isi_str_str | apply rd_isi_str_list | apply rd_isi_str_tuple | (show rIsi _ _ _ _; refine rd_isi_list_int (by array_mem_dec) ?_) | (show rIsi _ _ _ _; refine rd_isi_list_bool (by array_mem_dec) ?_) | (show rIsi _ _ _ _; refine rd_isi_list_str (by array_mem_dec) ?_) | (show rIsi _ _ _ _; refine rd_isi_list_list (by array_mem_dec) ?_) | (show rIsi _ _ _ _; refine rd_isi_list_tuple (by array_mem_dec) ?_) | (show rIsi _ _ _ _; refine rd_isi_tuple_int (by array_mem_dec) ?_) | (show rIsi _ _ _ _; refine rd_isi_tuple_bool (by array_mem_dec) ?_) | (show rIsi _ _ _ _; refine rd_isi_tuple_str (by array_mem_dec) ?_) | (show rIsi _ _ _ _; refine rd_isi_tuple_list (by array_mem_dec) ?_) | (show rIsi _ _ _ _; refine rd_isi_tuple_tuple (by array_mem_dec) ?_) | apply rd_isi_NoneType_int | apply rd_isi_NoneType_bool | apply rd_isi_NoneType_str | apply rd_isi_NoneType_list | apply rd_isi_NoneType_tuple)
local macro_rules | `(tactic| lcg_src) => `(tactic| repeat keq_rows)

local macro_rules | `(tactic| lcg_sub) => `(tactic| with_reducible first | refine fldR_at (by assumption) (by array_mem_dec) ?_ | refine fldR_text (by assumption) (by array_mem_dec) ?_ | refine fldR_nested (by assumption) (by array_mem_dec) ?_ | refine fldR_rows (by assumption) (by array_mem_dec) ?_ | refine augR_at (by assumption) (by array_mem_dec) ?_ | refine methR (by array_mem_dec) (by decide +kernel) (by decide +kernel) (by decide +kernel) (by decide +kernel) ?_ | refine rd_raiseO ?_)
local macro_rules | `(tactic| lcg_off) => `(tactic| repeat (first | keq_rows | lcg_sub))
theorem snoc_inj {α : Type} {xs ys : List α} {x y : α} (h : xs ++ [x] = ys ++ [y]) : xs = ys ∧ x = y := by
  have := List.append_inj' h rfl
  exact ⟨this.1, by simpa using this.2⟩
theorem snoc_ne {α : Type} {xs : List α} {x : α} (h : xs ++ [x] = []) : False := by simp at h
theorem Big.close_inv {st : RS} {r : Except Nat (List Row)} {ns : List (List Nat × Nat)} {s : List Nat} {k : Nat} (h : Big false st r) (e : st.ns = ns ++ [(s, k)]) (hs : s ≠ []) :
    (∃ i, mSkip [41] st = .error i ∧ r = .error i) ∨ ∃ st1, mSkip [41] st = .ok st1 ∧ Big false { st1 with ns := ns, rows := st1.rows ++ [.done s k] } r := by
  cases h with
  | closeBad e2 _ h1 => exact .inl ⟨_, h1, rfl⟩
  | closeMore e2 _ h1 h2 =>
    obtain ⟨rfl, q⟩ := snoc_inj (e.symm.trans e2)
    cases q
    exact .inr ⟨_, h1, h2⟩
  | fin e2 _ => exact (snoc_ne (e.symm.trans e2)).elim
  | finBad e2 _ => exact (snoc_ne (e.symm.trans e2)).elim
  | signBad e2 _ =>
    obtain ⟨_, q⟩ := snoc_inj (e.symm.trans e2)
    cases q
    exact absurd rfl hs
  | sign e2 _ _ =>
    obtain ⟨_, q⟩ := snoc_inj (e.symm.trans e2)
    cases q
    exact absurd rfl hs
theorem Big.sign_inv {st : RS} {r : Except Nat (List Row)} {ns : List (List Nat × Nat)} {k : Nat} (h : Big false st r) (e : st.ns = ns ++ [([], k)]) :
    (∃ i, mSign st = .error i ∧ r = .error i) ∨ ∃ s st', mSign st = .ok (s, st') ∧ Big true { st' with ns := ns ++ [(s, 2)] } r := by
  cases h with
  | closeBad e2 h0 h1 =>
    obtain ⟨_, q⟩ := snoc_inj (e.symm.trans e2)
    cases q
    exact absurd rfl h0
  | closeMore e2 h0 h1 h2 =>
    obtain ⟨_, q⟩ := snoc_inj (e.symm.trans e2)
    cases q
    exact absurd rfl h0
  | fin e2 _ => exact (snoc_ne (e.symm.trans e2)).elim
  | finBad e2 _ => exact (snoc_ne (e.symm.trans e2)).elim
  | signBad e2 h1 => exact .inl ⟨_, h1, rfl⟩
  | sign e2 h1 h2 =>
    obtain ⟨rfl, q⟩ := snoc_inj (e.symm.trans e2)
    exact .inr ⟨_, _, h1, h2⟩
theorem Big.fin_inv {st : RS} {r : Except Nat (List Row)} (h : Big false st r) (e : st.ns = []) : (st.rest = [] ∧ r = .ok st.rows) ∨ (st.rest ≠ [] ∧ r = .error st.i) := by
  cases h with
  | closeBad e2 h0 h1 => exact (snoc_ne (e2.symm.trans e)).elim
  | closeMore e2 h0 h1 h2 => exact (snoc_ne (e2.symm.trans e)).elim
  | fin _ h => exact .inl ⟨h, rfl⟩
  | finBad _ h => exact .inr ⟨h, rfl⟩
  | signBad e2 h1 => exact (snoc_ne (e2.symm.trans e)).elim
  | sign e2 h1 h2 => exact (snoc_ne (e2.symm.trans e)).elim
theorem Big.open_inv {st : RS} {r : Except Nat (List Row)} (h : Big true st r) : (∃ i, mOpen st = .error i ∧ r = .error i) ∨ (∃ st', mOpen st = .ok (true, st') ∧ Big true st' r) ∨ ∃ st', mOpen st = .ok (false, st') ∧ Big false st' r := by
  cases h with
  | openBad h1 => exact .inl ⟨_, h1, rfl⟩
  | openMore h1 h2 => exact .inr (.inl ⟨_, h1, h2⟩)
  | openStop h1 h2 => exact .inr (.inr ⟨_, h1, h2⟩)
theorem dpAll_snoc {K : PySem.W.Frag} {F : Hp} {xs : List V} {ds : List PyData} {d : PyData} (h : DpAll K F xs (ds ++ [d])) : ∃ ys v, xs = ys ++ [v] ∧ DpAll K F ys ds ∧ Dp K F v d := by
  induction ds generalizing xs with
  | nil =>
    cases h with
    | cons h1 h2 => cases h2; exact ⟨[], _, rfl, .nil, h1⟩
  | cons e ds ih =>
    cases h with
    | cons h1 h2 =>
      obtain ⟨ys, v, rfl, h3, h4⟩ := ih h2
      exact ⟨_ :: ys, v, rfl, .cons h1 h3, h4⟩
theorem ixN_last {xs : List V} {v : V} : ixN (xs ++ [v]).length (-1) = some xs.length := by
  have e : (xs ++ [v]).length = xs.length + 1 := by simp
  rw [e]
  unfold ixN
  rw [if_neg (by omega), if_pos (by omega)]
  congr 1
  omega
theorem atI_last {xs : List V} {v : V} : atI (xs ++ [v]) (-1) = some v := by
  unfold atI
  rw [ixN_last]
  exact List.getElem?_concat_length
theorem nestD_lay {p : List Nat × Nat} (h : okT p.1) : PyData.canLay0 (nestD p) = true := by simp [nestD, PyData.canLay0, PyData.canLayAll0, okT_str h]
theorem nestD_depth (p : List Nat × Nat) : PyData.depth (nestD p) = 1 := by simp [nestD, PyData.depth, PyData.depthAll]
theorem nest_shaped {ns : List (List Nat × Nat)} (h : ∀ p ∈ ns, okT p.1) : SeqAt.shaped (.list (ns.map nestD)) = true := by
  refine shaped_list 1 (fun d hd => ?_) (fun d hd => ?_) (by omega)
  · obtain ⟨l, hl, rfl⟩ := List.mem_map.mp hd
    exact nestD_lay (h l hl)
  · obtain ⟨l, hl, rfl⟩ := List.mem_map.mp hd
    rw [nestD_depth]
    omega
theorem nil_shaped : SeqAt.shaped (.list []) = true := by decide +kernel
theorem eqv_nil {ns : List (List Nat × Nat)} : PyData.eqv (.list (ns.map nestD)) (.list []) = decide (ns = []) := by
  cases ns with
  | nil => simp [PyData.eqv, PyData.eqvAll]
  | cons x ns => simp [PyData.eqv, PyData.eqvAll]
theorem RdAt.nestDp {a : Ad} {K : PySem.W.Frag} {F0 H0 F H : Hp} {p dx nq rq : Addr} {t : List Nat} {st : RS} (R : RdAt a K F0 H0 F H p dx nq rq t st) : Dp K H (.ref nq) (.list (st.ns.map nestD)) := by
  obtain ⟨xs, h1, h2⟩ := R.nest
  exact .lst (sqL_of h1.h) (h2.mono R.gr.fh)
section
variable {P : Program} {w : World} {K : PySem.W.Frag} {mg : Str → Option Value} {base : Heap} {a : Ad}
def sp_Reader_close (a : Ad) (K : PySem.W.Frag) : Sp := fun vs H Q E => ∃ (F0 H0 F : Hp) (p dx nq rq : Addr) (t : List Nat) (st : RS) (r : Except Nat (List Row)), vs = [.ref p] ∧ RdAt a K F0 H0 F H p dx nq rq t st ∧ Big false st r ∧
  (∀ st' F' H', RdAt a K F0 H0 F' H' p dx nq rq t st' → Big false st' r → (st'.ns = [] ∨ ∃ ns k, st'.ns = ns ++ [([], k)]) → st.i ≤ st'.i → Q .non H') ∧ (∀ i, r = .error i → Bad a H0 E i)
theorem nil_or {ns : List (List Nat × Nat)} (h : ns ≠ []) : ∃ ns' s k, ns = ns' ++ [(s, k)] := by
  obtain ⟨ns', x, rfl⟩ : ∃ ns' x, ns = ns' ++ [x] := ⟨ns.dropLast, ns.getLast h, (List.dropLast_concat_getLast h).symm⟩
  exact ⟨ns', x.1, x.2, rfl⟩
theorem ok_Reader_close (T : Txt K mg a) : FnOk P w K mg base (CX P w) 5 a.f_Reader_close a.fd_Reader_close ["self"]  (sp_Reader_close a K) := by
  refine T.F_Reader_close.okX sc_Reader_close (fun vs H Q E h => ?_) (fun cdv A outer s H vs Q E hr h => ?_)
  · obtain ⟨_, _, _, _, _, _, _, _, _, _, rfl, _⟩ := h
    rfl
  · obtain ⟨F0, H0, F, p, dx, nq, rq, t, st, r, rfl, R, B, k1, k2⟩ := h
    refine ⟨_, ((pss_one (ps_while (passes_of rfl) (PW.pt (pw_and (pt_cmpR (op_neD hr.units) (pe_fld (pv 0) rfl) (pe_lst pa_nil) (nomark _)) (pw_and1 (pt_cmpR op_ne (pe_ix ix_tup (pe_ix ix_list (pe_fld (pv 0) rfl) (pe_un un_neg pe_int) (fun _ _ => rfl)) pe_int (fun _ _ => rfl)) pe_str (nomark _)))))
 (pss_cons (ps_expr (pe_meth (pv 0) T.cl_Reader T.m_Reader_skip (ok_Reader_skip T) hr T.b_Reader_skip .nil (passes_call (takes_of rfl rfl rfl rfl) (fun _ _ _ _ h => h)) (pa_cons pe_str pa_nil)))
 (pss_cons (ps_asg (pe_bm0 PySem.F.plainAttrs_list PySem.F.slot_list_pop PySem.F.type_list_pop mt_pop (pe_fld (pv 0) rfl)) (pg_tup rfl (pgs_cons (pg_name (i := 1) sc_Reader_close.nd rfl (Or.inl rfl)) (pgs_cons (pg_name (i := 2) sc_Reader_close.nd rfl (Or.inl rfl)) pgs_nil))))
 (pss_one (ps_expr (pe_bm PySem.F.plainAttrs_list PySem.F.slot_list_append PySem.F.type_list_append mt_append (pe_fld (pv 0) rfl) (pa_cons (pe_tup (pa_cons (pe_glob (v := .str "done") rfl T.g_DONE ⟨_, rfl⟩) (pa_cons (pv 1) (pa_cons (pv 2) pa_nil)))) pa_nil))))))))), ?_⟩
    try simp only [cxK, nil_tx, close_tx]
    refine rd_whileN (fun m σ H2 => ∃ (st2 : RS) (F2 : Hp) (u v : Option V), m = st2.ns.length ∧ RdAt a K F0 H0 F2 H2 p dx nq rq t st2 ∧ Big false st2 r ∧ st.i ≤ st2.i ∧ σ = [some (.ref p), u, v]) _ ⟨st, F, _, _, rfl, R, B, Nat.le_refl _, rfl⟩ ?_
    rintro m σ H2 ⟨st2, F2, u, v, rfl, R2, B2, hi2, rfl⟩
    have hs2 := R2.slf
    lcg_off
    refine newL R2.gr.fh fun F3 H3 l3 g3 n3 e3 => ?_
    have R3 := R2.beside g3
    have hs3 := R3.slf
    refine rd_neD (R3.nestDp) (.lst (sqL_of (g3.fh _ _ e3)) .nil) (nest_shaped R3.nk) nil_shaped ?_
    rw [eqv_nil]
    lcg_off
    refine ifN (fun c => ?_) (fun c => ?_)
    · obtain ⟨ns, sg, kk, hns⟩ := nil_or c
      obtain ⟨xs, hx, hxs⟩ := R3.nest
      rw [hns, List.map_append] at hxs
      obtain ⟨ys, y, rfl, hys, hy⟩ := dpAll_snoc hxs
      obtain ⟨q, rfl, hq⟩ := Dp.tup_flat (ws := [.str (tx sg), .int (kk : Nat)]) hy
      have hqH : SqT K H3 q [.str (tx sg), .int (kk : Nat)] := sqT_same g3.fh hq
      lcg_off
      refine rd_ixL (sqL_of hx.h) atI_last ?_
      lcg_off
      refine ifN (fun c2 => ?_) (fun c2 => ?_)
      · refine ⟨_, fun _ _ z => z, ?_⟩
        lcg_off
        rcases B2.close_inv hns c2 with ⟨i, hb, rfl⟩ | ⟨st4, hb, B4⟩
        · refine ⟨F0, H0, F3, p, dx, nq, rq, t, st2, [41], rfl, R3, fun st' F' H' e => ?_, fun i' e => ?_⟩
          · rw [hb] at e; cases e
          · rw [hb] at e; cases e
            exact k2 i rfl
        refine ⟨F0, H0, F3, p, dx, nq, rq, t, st2, [41], rfl, R3, fun st' F4 H4 e R4 hi4 => ?_, fun i' e => by rw [hb] at e; cases e⟩
        rw [hb] at e
        cases e
        obtain ⟨e4, _⟩ := mSkip_go hb
        have hs4 := R4.slf
        have hns4 : st4.ns = ns ++ [(sg, kk)] := by rw [e4]; exact hns
        obtain ⟨xs4, hx4, hxs4⟩ := R4.nest
        rw [hns4, List.map_append] at hxs4
        obtain ⟨ys4, y4, rfl, hys4, hy4⟩ := dpAll_snoc hxs4
        obtain ⟨q4, rfl, hq4⟩ := Dp.tup_flat (ws := [.str (tx sg), .int (kk : Nat)]) hy4
        lcg_off
        refine rd_bm0L hx4.h ?_
        refine rd_pop hx4.h (y := .ref q4) (by simp) ?_
        have hnl := R4.nl
        rw [hns4] at hnl
        simp only [List.length_append, List.length_cons, List.length_nil] at hnl
        have R5 := R4.nesting (zs := ys4) (ns := ns) hys4 (by omega) (fun x hx => R4.nk x (by rw [hns4]; exact List.mem_append_left _ hx))
        rw [List.dropLast_concat]
        have hs5 := R5.slf
        obtain ⟨zs, hz, hzs⟩ := R5.rws
        have hzl : zs.length = st4.rows.length := by simpa using hzs.length
        have hrl := R2.rl
        have hti := R4.ti
        have hl := R4.len
        have e4r : st4.rows = st2.rows := by rw [e4]; rfl
        lcg_off
        refine rd_gtup (xs := [.str (tx sg), .int (kk : Nat)]) (sqT_same R5.gr.fh hq4) (by with_unfolding_all rfl) ?_
        lcg_off
        refine rd_bmL hz.h ?_
        lcg_off
        refine newTD (K := K) R5.gr.fh (flAll_mk (ds := [.str "done", .str (tx sg), .int (kk : Nat)]) rfl) fun F6 H6 T6 g6 n6 e6 => ?_
        have R6 := R5.beside g6
        lcg_off
        refine rd_append (g6.same _ _ hz.h) (sz_lt (by rw [hzl, e4r]; omega)) ?_
        have R7 := R6.row (r := .done sg kk) (g6.same _ _ hz.h) e6 (by show st4.rows.length < st4.i; rw [e4r]; omega)
        refine ⟨ns.length, by rw [hns]; simp, { st4 with ns := ns, rows := st4.rows ++ [.done sg kk] }, F6, _, _, rfl, R7, B4, by show st.i ≤ st4.i; omega, rfl⟩
      · subst c2
        exact k1 st2 F3 H3 R3 B2 (.inr ⟨ns, kk, hns⟩) hi2
    · refine iteF ?_
      exact k1 st2 F3 H3 R3 B2 (.inl c) hi2
theorem mSign_go {st st' : RS} {s : List Nat} (h : mSign st = .ok (s, st')) : st'.ns = st.ns ∧ st'.rows = st.rows ∧ st.i < st'.i := by
  unfold mSign at h
  split at h
  · cases h
  · rename_i st1 e1
    obtain ⟨rfl, _⟩ := mSkip_go e1
    split at h
    · cases h
    · split at h
      · cases h
      · rename_i st2 e2
        obtain ⟨rfl, _⟩ := mSkip_go e2
        split at h
        · split at h
          · cases h
          · rename_i st3 e3
            obtain ⟨rfl, _⟩ := mSkip_go e3
            split at h
            · cases h
            · rename_i st4 e4
              obtain ⟨rfl, _⟩ := mSkip_go e4
              cases h
              exact ⟨rfl, rfl, by show st.i < st.i + 1 + 1 + 1 + 1; omega⟩
        · split at h
          · cases h
          · rename_i st4 e4
            obtain ⟨rfl, _⟩ := mSkip_go e4
            cases h
            exact ⟨rfl, rfl, by show st.i < st.i + 1 + 1 + 1; omega⟩
def sp_Reader_read_sign (a : Ad) (K : PySem.W.Frag) : Sp := fun vs H Q E => ∃ (F0 H0 F : Hp) (p dx nq rq : Addr) (t : List Nat) (st : RS) (ns : List (List Nat × Nat)) (k : Nat), vs = [.ref p] ∧ RdAt a K F0 H0 F H p dx nq rq t st ∧ st.ns = ns ++ [([], k)] ∧
  (∀ s st' F' H', mSign st = .ok (s, st') → RdAt a K F0 H0 F' H' p dx nq rq t { st' with ns := ns ++ [(s, 2)] } → Q .non H') ∧ (∀ i, mSign st = .error i → Bad a H0 E i)
theorem firsts_lt : ∀ c ∈ firsts, c < 128 := by decide
theorem set_last {xs : List V} {v u : V} : (xs ++ [v]).set xs.length u = xs ++ [u] := by
  rw [List.set_append_right _ _ (Nat.le_refl _)]
  simp
theorem ok_Reader_read_sign (T : Txt K mg a) : FnOk P w K mg base (CX P w) 5 a.f_Reader_read_sign a.fd_Reader_read_sign ["self"]  (sp_Reader_read_sign a K) := by
  refine T.F_Reader_read_sign.okX sc_Reader_read_sign (fun vs H Q E h => ?_) (fun cdv A outer s H vs Q E hr h => ?_)
  · obtain ⟨_, _, _, _, _, _, _, _, _, _, _, rfl, _⟩ := h
    rfl
  · obtain ⟨F0, H0, F, p, dx, nq, rq, t, st, ns, kk, rfl, R, hns, k1, k2⟩ := h
    have hs := R.slf
    refine ⟨_, ((pss_cons (ps_expr (pe_meth (pv 0) T.cl_Reader T.m_Reader_skip (ok_Reader_skip T) hr T.b_Reader_skip .nil (passes_call (takes_of rfl rfl rfl rfl) (fun _ _ _ _ h => h)) (pa_cons pe_str pa_nil)))
 (pss_cons (ps_set (i := 1) sc_Reader_read_sign.nd rfl (Or.inl rfl) (pe_meth0 (pv 0) T.cl_Reader T.m_Reader_here (ok_Reader_here T) (hr.mono (by decide)) T.b_Reader_here .nil (passes_call (takes_of rfl rfl rfl rfl) (fun _ _ _ _ h => h))))
 (pss_cons (ps_expr (pe_meth (pv 0) T.cl_Reader T.m_Reader_skip (ok_Reader_skip T) hr T.b_Reader_skip .nil (passes_call (takes_of rfl rfl rfl rfl) (fun _ _ _ _ h => h)) (pa_cons pe_str pa_nil)))
 (Evl.pss_cut (ps_if (pt_cmpR op_inSign (pv 1) pe_str (by rfl))
 (pss_cons (ps_expr (pe_meth (pv 0) T.cl_Reader T.m_Reader_skip (ok_Reader_skip T) hr T.b_Reader_skip .nil (passes_call (takes_of rfl rfl rfl rfl) (fun _ _ _ _ h => h)) (pa_cons (pv 1) pa_nil)))
 (pss_one (ps_set (i := 1) sc_Reader_read_sign.nd rfl (Or.inl rfl) (pe_op op_addStr (pv 1) (pv 1)))))
 pss_nil)
 (pss_cons (ps_expr (pe_meth (pv 0) T.cl_Reader T.m_Reader_skip (ok_Reader_skip T) hr T.b_Reader_skip .nil (passes_call (takes_of rfl rfl rfl rfl) (fun _ _ _ _ h => h)) (pa_cons pe_str pa_nil)))
 (pss_one (ps_asg (pe_tup (pa_cons (pv 1) (pa_cons pe_int pa_nil))) (pg_sub (pe_fld (pv 0) rfl) (pe_un un_neg pe_int) set_list))))))))), ?_⟩
    try simp only [cxK, space_tx, firsts_tx, twos_tx]
    lcg_off
    refine ⟨F0, H0, F, p, dx, nq, rq, t, st, [32], rfl, R, fun st1 F1 H1 h1 R1 hi1 => ?_, fun i e => k2 i (by unfold mSign; rw [e])⟩
    have hs1 := R1.slf
    lcg_off
    refine ⟨F0, H0, F1, p, dx, nq, rq, t, st1, rfl, R1, fun c r hc => ?_, fun hc => k2 _ (by unfold mSign; rw [h1]; simp only; rw [hc])⟩
    lcg_off
    refine ⟨F0, H0, F1, p, dx, nq, rq, t, st1, firsts, rfl, R1, fun st2 F2 H2 h2 R2 hi2 => ?_, fun i e => k2 i (by unfold mSign; rw [h1]; simp only; rw [hc]; simp only; rw [e])⟩
    have hs2 := R2.slf
    have hcf : c ∈ firsts := by
      obtain ⟨_, c', r', hc', hf⟩ := mSkip_go h2
      rw [hc] at hc'
      cases hc'
      exact hf
    lcg_off
    obtain ⟨e1, _⟩ := mSkip_go h1
    obtain ⟨e2, _⟩ := mSkip_go h2
    refine rd_cut (fun σ' H3 => ∃ (sg : List Nat) (st3 : RS) (F3 : Hp), RdAt a K F0 H0 F3 H3 p dx nq rq t st3 ∧ st3.ns = st.ns ∧ okT sg ∧ (∀ i, mSkip [32] st3 = .error i → mSign st = .error i) ∧ (∀ st4, mSkip [32] st3 = .ok st4 → mSign st = .ok (sg, st4)) ∧ σ' = [some (.ref p), some (.str (tx sg))]) ?_ ?_
    · lcg_off
      refine ifD (fun c2 => ?_) (fun c2 => ?_)
      · lcg_off
        refine ⟨F0, H0, F2, p, dx, nq, rq, t, st2, [c], rfl, R2, fun st3 F3 H3 h3 R3 hi3 => ?_, fun i e => k2 i (by unfold mSign; rw [h1]; simp only; rw [hc]; simp only; rw [h2]; simp only; rw [if_pos c2, e])⟩
        obtain ⟨e3, _⟩ := mSkip_go h3
        lcg_off
        refine ⟨[c, c], st3, F3, R3, (by rw [e3, e2, e1]; rfl), (fun x hx => ?_), (fun i e => ?_), (fun st4 e => ?_), rfl⟩
        · have : x = c := by simpa using hx
          rw [this]
          exact firsts_lt c hcf
        · unfold mSign
          rw [h1]
          simp only
          rw [hc]
          simp only
          rw [h2]
          simp only
          rw [if_pos c2, h3]
          simp only
          rw [e]
        · unfold mSign
          rw [h1]
          simp only
          rw [hc]
          simp only
          rw [h2]
          simp only
          rw [if_pos c2, h3]
          simp only
          rw [e]
      · lcg_off
        refine ⟨[c], st2, F2, R2, (by rw [e2, e1]; rfl), (fun x hx => ?_), (fun i e => ?_), (fun st4 e => ?_), rfl⟩
        · have : x = c := by simpa using hx
          rw [this]
          exact firsts_lt c hcf
        · unfold mSign
          rw [h1]
          simp only
          rw [hc]
          simp only
          rw [h2]
          simp only
          rw [if_neg c2, e]
        · unfold mSign
          rw [h1]
          simp only
          rw [hc]
          simp only
          rw [h2]
          simp only
          rw [if_neg c2, e]
    · rintro σ' H3 ⟨sg, st3, F3, R3, hn3, hok, he, hk, rfl⟩
      have hs3 := R3.slf
      lcg_off
      refine ⟨F0, H0, F3, p, dx, nq, rq, t, st3, [32], rfl, R3, fun st4 F4 H4 h4 R4 hi4 => ?_, fun i e => k2 i (he i e)⟩
      have hs4 := R4.slf
      have hns4 : st4.ns = ns ++ [([], kk)] := by
        obtain ⟨e4, _⟩ := mSkip_go h4
        rw [e4]
        exact hn3.trans hns
      lcg_off
      refine newTD (K := K) R4.gr.fh (flAll_mk (ds := [.str (tx sg), .int 2]) rfl) fun F5 H5 T5 g5 n5 e5 => ?_
      have R5 := R4.beside g5
      have hs5 := R5.slf
      obtain ⟨xs5, hx5, hxs5⟩ := R5.nest
      rw [hns4, List.map_append] at hxs5
      obtain ⟨ys5, y5, rfl, hys5, hy5⟩ := dpAll_snoc hxs5
      have hnl := R5.nl
      rw [hns4] at hnl
      simp only [List.length_append, List.length_cons, List.length_nil] at hnl
      lcg_off
      refine rd_setL hx5.h ixN_last ?_
      rw [set_last]
      refine k1 sg st4 F5 _ (hk st4 h4) (R5.nesting (ns := ns ++ [(sg, 2)]) (by rw [List.map_append]; exact hys5.snoc e5) (by simp; omega) (fun x hx => ?_))
      rcases List.mem_append.mp hx with z | z
      · exact R5.nk x (by rw [hns4]; exact List.mem_append_left _ z)
      · rw [List.mem_singleton.mp z]
        exact hok
end
end Ex

namespace Ex
open PySem L2 Hk
local macro_rules | `(tactic| array_mem_dec) => `(tactic| with_reducible first
  | assumption | exact upd_same
  | (apply upd_new; assumption; array_mem_dec)
  | (apply upd_old; tlg_ne; array_mem_dec)
  | (apply same_at; assumption; array_mem_dec))
local macro_rules | `(tactic| tlg_ne) => `(tactic| with_reducible first
  | assumption | (apply Ne.symm; assumption)
  | (apply ne_new; assumption; array_mem_dec) | (apply ne_new'; assumption; array_mem_dec)
  | (apply ne_of; assumption; assumption; (with_unfolding_all (intro z; cases z; done))))
local macro_rules | `(tactic| decreasing_trivial_pre_omega) => `(tactic| with_reducible first
  | assumption | (apply sqL_of; array_mem_dec) | (apply sqT_of; array_mem_dec)
  | (apply Same.seq; assumption; decreasing_trivial_pre_omega) | (apply sqT_same; assumption; decreasing_trivial_pre_omega)
  | (apply sqL_new; assumption; decreasing_trivial_pre_omega) | (apply sqL_upd; tlg_ne; decreasing_trivial_pre_omega))
local macro_rules | `(tactic| kpt_turns) => `(tactic| with_reducible first
  | assumption | exact Same.refl _ | (apply same_ext; kpt_turns; assumption) | (apply same_mut; kpt_turns; keq_hits) | (apply same_step; assumption; kpt_turns))
local macro_rules | `(tactic| keq_hits) => `(tactic| with_reducible first | assumption | (apply same_none; assumption; keq_hits))
local macro_rules | `(tactic| sizeOf_list_dec) => `(tactic| first | (with_reducible assumption) | (with_reducible_and_instances omega) | (with_unfolding_all decide))
local macro_rules | `(tactic| array_get_dec) => `(tactic| first | (with_reducible assumption) | (apply sz_of; (with_unfolding_all simp); done) | (apply sz_of; omega) | (apply sz_lt; (with_unfolding_all simp); done) | (apply sz_lt; omega))
local macro_rules | `(tactic| keq_rows) => `(tactic| with_reducible first
  | apply rd_asgN | apply rd_seq | apply rd_parA | apply rd_par3A | apply rd_par2 | apply rd_par3 | apply rd_m1 | apply rd_isStr | apply rd_cval | apply rd_asg | apply rd_gname | apply rd_op | (show tVar _ _ _ _; refine rd_var (by with_unfolding_all rfl) ?_) | apply rd_c | apply rd_I0
  | apply rd_cons | apply rd_nil | apply rd_cb | apply rd_test | apply rd_bl | apply rd_fld | apply rd_drop | apply rd_ret | apply rd_retN | apply rd_next
  | apply rd_ifS | apply rd_un | apply rd_B | apply rd_and | apply rd_or | apply rd_not | apply rd_andV | apply rd_orV | apply rd_notV | apply rd_if
  | apply rd_int | apply rd_abs | apply rd_max | apply rd_min | apply rd_strS | apply rd_U
  | apply rd_eqTx | apply rd_neTx | apply rd_inTx | apply rd_notInTx | apply rd_fmt | (show FmtK (.str (tx _)) _ _; refine rd_fmtT (by omega) ?_) | apply rd_jsC | apply rd_jsN | (show JsK _ (tx _) _ (.str (tx _)) _ _; refine rd_JsK (by first | omega | (simp; done) | (simp; omega)) ?_) | (show rAddStr (.str (tx _)) (.str (tx _)) _ _; refine rd_addT (by first | omega | (simp; done) | (simp; omega)) ?_) | (show rLenStr [.str (tx _)] _ _; refine rd_lenTx (by omega) ?_)
  | (show rEq _ _ _ _; refine rd_eq (by with_unfolding_all rfl) ?_) | (show rNe _ _ _ _; refine rd_ne (by with_unfolding_all rfl) ?_) | apply rd_isNone | apply rd_notNone
  | (show rIxL _ _ _ _ _; refine rd_ixL (by decreasing_trivial_pre_omega) (by with_unfolding_all rfl) ?_) | (show rIxT _ _ _ _ _; refine rd_ixT (by decreasing_trivial_pre_omega) (by with_unfolding_all rfl) ?_)
  | (show rLenSeq _ _ _ _; refine rd_lenL (by decreasing_trivial_pre_omega) ?_) | (show rLenSeq _ _ _ _; refine rd_lenT (by decreasing_trivial_pre_omega) ?_)
  | (show rI _ _ _ _ _ _; refine rd_mod (by sizeOf_list_dec) ?_) | (show rI _ _ _ _ _ _; refine rd_div (by sizeOf_list_dec) (by sizeOf_list_dec) ?_) | (show rI _ _ _ _ _ _; refine rd_mulR (by sizeOf_list_dec) (by sizeOf_list_dec) ?_) | (show rI _ _ _ _ _ _; refine rd_mulL (by sizeOf_list_dec) (by sizeOf_list_dec) ?_) | (show rI _ _ _ _ _ _; refine rd_pow (by sizeOf_list_dec) ?_)
  | (show rSetL _ _ _ _ _; refine rd_setL (by array_mem_dec) (by with_unfolding_all rfl) ?_)
  | apply rd_inSign | apply rd_notInSign | apply rd_tupK | apply rd_lstK | apply rd_sl | apply rd_noPart | apply rd_part | apply rd_isInt
  | apply rd_gsub | apply rd_gcons | apply rd_gnil | apply rd_call | apply rd_meth | apply rd_make | apply rd_smeth | apply rd_isC | apply rd_smethK | apply rd_cmeth | apply rd_cmethK
  | apply rd_bm | apply rd_bm0 | (show BmK _ _ _ _ _ _ _ _; refine rd_bmL (by array_mem_dec) ?_) | (show Bm0K _ _ _ _ _ _; refine rd_bm0L (by array_mem_dec) ?_) | apply rd_sfld | apply rd_aug | apply rd_rAdd | apply rd_brk | apply rd_cont
  | apply rd_for | apply rd_iList | (show IList _ _ _ _; refine rd_IList (by decreasing_trivial_pre_omega) ?_) | apply rd_iTup | (show ITup _ _ _ _; refine rd_ITup (by decreasing_trivial_pre_omega) ?_) | apply rd_iEnum | (show IEnum _ _ _ _; refine rd_IEnum (by decreasing_trivial_pre_omega) ?_) | apply rd_iRng1 | (show IRng1 _ _ _; refine rd_IRng1 (by sizeOf_list_dec) (by sizeOf_list_dec) ?_)
  | (show rLenStr _ _ _; refine rd_lenS (by array_get_dec) ?_) | (show rAddStr _ _ _ _; refine rd_addS (by array_get_dec) ?_) | (show rSlS _ _ _ _ _; refine rd_slS (by array_get_dec) ?_) | apply rd_lc | apply rd_yes | (show gTup _ _ _ _ _ _ _; refine rd_gtup (by decreasing_trivial_pre_omega) (by with_unfolding_all rfl) ?_) | (show tMakeL _ _ _ _ _ _ _ _; refine rd_makeL (by with_unfolding_all rfl) ?_))
local macro_rules | `(tactic| kas_types) => `(tactic| with_reducible first | apply rd_isi_int_int | apply rd_isi_int_bool | apply rd_isi_int_str | apply rd_isi_int_list | apply rd_isi_int_tuple | apply rd_isi_bool_int | apply rd_isi_bool_bool | apply rd_isi_bool_str | apply rd_isi_bool_list | apply rd_isi_bool_tuple | apply rd_isi_str_int | apply rd_isi_str_bool | apply rd_isi_str_str | apply rd_isi_str_list | apply rd_isi_str_tuple | (show rIsi _ _ _ _; refine rd_isi_list_int (by array_mem_dec) ?_) | (show rIsi _ _ _ _; refine rd_isi_list_bool (by array_mem_dec) ?_) | (show rIsi _ _ _ _; refine rd_isi_list_str (by array_mem_dec) ?_) | (show rIsi _ _ _ _; refine rd_isi_list_list (by array_mem_dec) ?_) | (show rIsi _ _ _ _; refine rd_isi_list_tuple (by array_mem_dec) ?_) | (show rIsi _ _ _ _; refine rd_isi_tuple_int (by array_mem_dec) ?_) | (show rIsi _ _ _ _; refine rd_isi_tuple_bool (by array_mem_dec) ?_) | (show rIsi _ _ _ _; refine rd_isi_tuple_str (by array_mem_dec) ?_) | (show rIsi _ _ _ _; refine rd_isi_tuple_list (by array_mem_dec) ?_) | (show rIsi _ _ _ _; refine rd_isi_tuple_tuple (by array_mem_dec) ?_) | apply rd_isi_NoneType_int | apply rd_isi_NoneType_bool | apply rd_isi_NoneType_str | apply rd_isi_NoneType_list | apply rd_isi_NoneType_tuple)
local macro_rules | `(tactic| lcg_src) => `(tactic| repeat keq_rows)

local macro_rules | `(tactic| lcg_sub) => `(tactic| with_reducible first | refine fldR_at (by assumption) (by array_mem_dec) ?_ | refine fldR_text (by assumption) (by array_mem_dec) ?_ | refine fldR_nested (by assumption) (by array_mem_dec) ?_ | refine fldR_rows (by assumption) (by array_mem_dec) ?_ | refine augR_at (by assumption) (by array_mem_dec) ?_ | refine methR (by array_mem_dec) (by decide +kernel) (by decide +kernel) (by decide +kernel) (by decide +kernel) ?_ | refine rd_raiseO ?_)
local macro_rules | `(tactic| lcg_off) => `(tactic| repeat (first | keq_rows | lcg_sub))
theorem fR_put1 {v : V} : putF "text" v [] = [(("text" : Str), v)] := rfl
theorem fR_put2 {v u : V} : putF "at" u [(("text" : Str), v)] = [(("text" : Str), v), ("at", u)] := by
  show (if ("text" : Str) = "at" then _ else (("text" : Str), v) :: putF "at" u []) = _
  rw [if_neg (by decide +kernel)]
  rfl
theorem fR_put3 {v u y : V} : putF "nested" y [(("text" : Str), v), ("at", u)] = [(("text" : Str), v), ("at", u), ("nested", y)] := by
  show (if ("text" : Str) = "nested" then _ else (("text" : Str), v) :: (if ("at" : Str) = "nested" then _ else (("at" : Str), u) :: putF "nested" y [])) = _
  rw [if_neg (by decide +kernel), if_neg (by decide +kernel)]
  rfl
theorem fR_put4 {v u y z : V} : putF "rows" z [(("text" : Str), v), ("at", u), ("nested", y)] = [(("text" : Str), v), ("at", u), ("nested", y), ("rows", z)] := by
  show (if ("text" : Str) = "rows" then _ else (("text" : Str), v) :: (if ("at" : Str) = "rows" then _ else (("at" : Str), u) :: (if ("nested" : Str) = "rows" then _ else (("nested" : Str), y) :: putF "rows" z []))) = _
  rw [if_neg (by decide +kernel), if_neg (by decide +kernel), if_neg (by decide +kernel)]
  rfl
section
variable {P : Program} {w : World} {K : PySem.W.Frag} {mg : Str → Option Value} {base : Heap} {a : Ad}
def sp_Reader_init (a : Ad) (K : PySem.W.Frag) : Sp := fun vs H Q _ => ∃ (F0 H0 F : Hp) (p dx : Addr) (t : List Nat), vs = [.ref p, .str (tx t)] ∧ H p = some (.ins a.C_Reader dx []) ∧ F p = none ∧ H0 p = none ∧ Grow [] F0 H0 F H ∧ t.length ≤ 10000 ∧
  ∀ nq rq H', RdAt a K F0 H0 F H' p dx nq rq t (start t) → Q .non H'
theorem ok_Reader_init (T : Txt K mg a) : FnOk P w K mg base CX0 1 a.f_Reader_init a.fd_Reader_init ["self", "text"]  (sp_Reader_init a K) := by
  refine T.F_Reader_init.ok sc_Reader_init (fun vs H Q E h => ?_) (fun cdv A outer s H vs Q E hr h => ?_)
  · obtain ⟨_, _, _, _, _, _, rfl, _⟩ := h
    rfl
  · obtain ⟨F0, H0, F, p, dx, t, rfl, hp, hfp, hp0, g0, hl, k⟩ := h
    refine ⟨_, ((pss_cons (ps_fld (pv 0) (pv 1) rfl)
 (pss_cons (ps_fld (pv 0) pe_int rfl)
 (pss_cons (ps_fld (pv 0) (pe_lst pa_nil) rfl)
 (pss_one (ps_fld (pv 0) (pe_lst pa_nil) rfl)))))), ?_⟩
    try simp only [cxK]
    lcg_off
    refine rd_sfldK hp T.cl_Reader T.no_Reader_text (by show 0 < 1000; decide) ?_
    rw [fR_put1]
    lcg_off
    refine rd_sfldK upd_same T.cl_Reader T.no_Reader_at (by show 1 < 1000; decide) ?_
    rw [fR_put2, upd_upd]
    have g1 := g0.mut (o := .ins a.C_Reader dx [("text", .str (tx t)), ("at", .int 0)]) hfp (.inr hp0)
    lcg_off
    refine newO g1.fh fun H2 nq g2 n2 h2 => ?_
    have n1 : p ≠ nq := ne_of_none upd_same n2
    have g12 := g1.trans g2
    lcg_off
    refine rd_sfldK (g2.same _ _ upd_same) T.cl_Reader T.no_Reader_nested (by show 2 < 1000; decide) ?_
    rw [fR_put3]
    have g3 := g12.mut (o := .ins a.C_Reader dx [("text", .str (tx t)), ("at", .int 0), ("nested", .ref nq)]) hfp (.inr hp0)
    lcg_off
    refine newO g3.fh fun H4 rq g4 n4 h4 => ?_
    have n5 : p ≠ rq := ne_of_none upd_same n4
    have n6 : nq ≠ rq := ne_of_none (upd_old n1.symm h2.h) n4
    have g34 := g3.trans g4
    lcg_off
    refine rd_sfldK (g4.same _ _ upd_same) T.cl_Reader T.no_Reader_rows (by show 3 < 1000; decide) ?_
    rw [fR_put4]
    have g5 := g34.mut (o := .ins a.C_Reader dx [("text", .str (tx t)), ("at", .int 0), ("nested", .ref nq), ("rows", .ref rq)]) hfp (.inr hp0)
    refine k nq rq _ ⟨g5, hp0, g1.free n2, g3.free n4, n6, ⟨hfp, upd_same⟩, ⟨[], ⟨h2.f, upd_old n1.symm (g4.same _ _ (upd_old n1.symm h2.h))⟩, .nil⟩, ⟨[], h4.other n5.symm, .nil⟩, hl, rfl, Nat.zero_le _, Nat.zero_le _, Nat.le_refl _, (fun x hx => by cases hx)⟩
def sp_Reader_whole (a : Ad) (K : PySem.W.Frag) : Sp := fun vs H Q E => ∃ (F0 H0 F : Hp) (p dx nq rq : Addr) (t : List Nat) (st : RS) (r : Except Nat (List Row)), vs = [.ref p] ∧ RdAt a K F0 H0 F H p dx nq rq t st ∧ Big true st r ∧
  (∀ rows F' H' q xs, r = .ok rows → Grow [] F0 H0 F' H' → F' q = some (.lst xs) → DpAll K F' xs (rows.map Row.dat) → rows.length ≤ 10000 → Q (.ref q) H') ∧ (∀ i, r = .error i → Bad a H0 E i)
theorem ok_Reader_whole (T : Txt K mg a) : FnOk P w K mg base (CX P w) 8 a.f_Reader_whole a.fd_Reader_whole ["self"]  (sp_Reader_whole a K) := by
  refine T.F_Reader_whole.okX sc_Reader_whole (fun vs H Q E h => ?_) (fun cdv A outer s H vs Q E hr h => ?_)
  · obtain ⟨_, _, _, _, _, _, _, _, _, _, rfl, _⟩ := h
    rfl
  · obtain ⟨F0, H0, F, p, dx, nq, rq, t, st, r, rfl, R, B, k1, k2⟩ := h
    have hl := R.len
    refine ⟨_, ((pss_cons (ps_while (passes_of rfl) (pt_val pe_bl)
 (pss_cons (ps_while (passes_of rfl) (pt_val (pe_meth0 (pv 0) T.cl_Reader T.m_Reader_is_opened (ok_Reader_is_opened T) hr T.b_Reader_is_opened .nil (passes_call (takes_of rfl rfl rfl rfl) (fun _ _ _ _ h => h))))
 (pss_one ps_pass))
 (pss_cons (ps_expr (pe_meth0 (pv 0) T.cl_Reader T.m_Reader_close (ok_Reader_close T) (hr.mono (by decide)) T.b_Reader_close .nil (passes_call (takes_of rfl rfl rfl rfl) (fun _ _ _ _ h => h))))
 (pss_cons (ps_if (pt_cmpR (op_eqD hr.units) (pe_fld (pv 0) rfl) (pe_lst pa_nil) (nomark _))
 (pss_one ps_break)
 pss_nil)
 (pss_one (ps_expr (pe_meth0 (pv 0) T.cl_Reader T.m_Reader_read_sign (ok_Reader_read_sign T) (hr.mono (by decide)) T.b_Reader_read_sign .nil (passes_call (takes_of rfl rfl rfl rfl) (fun _ _ _ _ h => h)))))))))
 (pss_cons (ps_if (pt_cmpR op_lt (pe_fld (pv 0) rfl) (pe_callB call_lenStr (by rfl) T.n_len (by decide +kernel) (pa_cons (pe_fld (pv 0) rfl) pa_nil)) (nomark _))
 (pss_one (ps_raiseO rfl (takes_of rfl rfl rfl rfl) T.ox_BadExpression T.m_BadExpression_init.at_ T.xt_BadExpression (ok_BadExpression_init T) (hr.mono (by decide)) T.b_BadExpression_init pass0 rfl T.g_BadExpression (pa_cons (pe_fld (pv 0) rfl) pa_nil)))
 pss_nil)
 (pss_one (ps_ret (pe_fld (pv 0) rfl)))))), ?_⟩
    try simp only [cxK]
    refine rd_seq ?_
    refine rd_whileN (fun m σ H2 => ∃ (st2 : RS) (F2 : Hp), m = t.length - st2.i ∧ RdAt a K F0 H0 F2 H2 p dx nq rq t st2 ∧ Big true st2 r ∧ σ = [some (.ref p)]) _ ⟨st, F, rfl, R, B, rfl⟩ ?_
    rintro m σ H2 ⟨st2, F2, rfl, R2, B2, rfl⟩
    lcg_off
    refine iteT ?_
    refine ⟨_, fun _ _ z => z, ?_⟩
    refine rd_seq ?_
    refine rd_whileN (fun m σ H3 => ∃ (st3 : RS) (F3 : Hp), m = t.length - st3.i ∧ RdAt a K F0 H0 F3 H3 p dx nq rq t st3 ∧ Big true st3 r ∧ st2.i ≤ st3.i ∧ σ = [some (.ref p)]) _ ⟨st2, F2, rfl, R2, B2, Nat.le_refl _, rfl⟩ ?_
    rintro m σ H3 ⟨st3, F3, rfl, R3, B3, hi3, rfl⟩
    have hs3 := R3.slf
    have hti3 := R3.ti
    lcg_off
    rcases B3.open_inv with ⟨i, hm, rfl⟩ | ⟨st4, hm, B4⟩ | ⟨st4, hm, B4⟩
    · refine ⟨F0, H0, F3, p, dx, nq, rq, t, st3, rfl, R3, fun b st' F' H' e => (by rw [hm] at e; cases e), fun i' e => ?_⟩
      rw [hm] at e
      cases e
      exact k2 i rfl
    · refine ⟨F0, H0, F3, p, dx, nq, rq, t, st3, rfl, R3, fun b st' F4 H4 e R4 hi4 => ?_, fun i' e => by rw [hm] at e; cases e⟩
      rw [hm] at e
      cases e
      have hti4 := R4.ti
      lcg_off
      refine iteT ?_
      refine ⟨_, fun _ _ z => z, ?_⟩
      lcg_off
      exact ⟨t.length - st4.i, by omega, st4, F4, rfl, R4, B4, by omega, rfl⟩
    · refine ⟨F0, H0, F3, p, dx, nq, rq, t, st3, rfl, R3, fun b st' F4 H4 e R4 hi4 => ?_, fun i' e => by rw [hm] at e; cases e⟩
      rw [hm] at e
      cases e
      have hs4 := R4.slf
      lcg_off
      refine iteF ?_
      lcg_off
      refine ⟨F0, H0, F4, p, dx, nq, rq, t, st4, r, rfl, R4, B4, fun st5 F5 H5 R5 B5 hc5 hi5 => ?_, k2⟩
      have hs5 := R5.slf
      lcg_off
      refine newL R5.gr.fh fun F6 H6 l6 g6 n6 e6 => ?_
      have R6 := R5.beside g6
      have hs6 := R6.slf
      have hti6 := R6.ti
      refine rd_eqD (R6.nestDp) (.lst (sqL_of (g6.fh _ _ e6)) .nil) (nest_shaped R6.nk) nil_shaped ?_
      rw [eqv_nil]
      lcg_off
      refine ifD (fun c => ?_) (fun c => ?_)
      · lcg_off
        rcases B5.fin_inv c with ⟨hr0, rfl⟩ | ⟨hr0, rfl⟩
        · have hend : t.length ≤ st5.i := by
            have := R6.tr
            rw [hr0] at this
            exact List.drop_eq_nil_iff.mp this
          refine ifD (fun z => absurd z (by omega)) (fun _ => ?_)
          lcg_off
          obtain ⟨ys, hy, hys⟩ := R6.rws
          have hrl := R6.rl
          exact k1 _ _ H6 rq ys rfl (R6.gr.frz hy.h hy.f R6.nr) upd_same (hys.mono (same_new hy.f)) (by omega)
        · have hend : st5.i < t.length := by
            have := R6.tr
            obtain ⟨c, r, hcr⟩ := List.exists_cons_of_ne_nil hr0
            rw [hcr] at this
            exact rest_lt this
          refine ifD (fun _ => ?_) (fun z => absurd (show (st5.i : Int) < (t.length : Int) by omega) z)
          lcg_off
          refine rd_err1 fun d H' z1 z2 z3 => ?_
          exact k2 st5.i rfl d H' (R6.gr.same.trans z2) (R6.gr.same.free z1) z3
      · lcg_off
        obtain ⟨ns, kk, hns⟩ := hc5.resolve_left c
        rcases B5.sign_inv hns with ⟨i, hm5, rfl⟩ | ⟨sg, st7, hm5, B7⟩
        · refine ⟨F0, H0, F6, p, dx, nq, rq, t, st5, ns, kk, rfl, R6, hns, fun s' st' F' H' e => (by rw [hm5] at e; cases e), fun i' e => ?_⟩
          rw [hm5] at e
          cases e
          exact k2 i rfl
        · refine ⟨F0, H0, F6, p, dx, nq, rq, t, st5, ns, kk, rfl, R6, hns, fun s' st' F7 H7 e R7 => ?_, fun i' e => by rw [hm5] at e; cases e⟩
          rw [hm5] at e
          cases e
          have hti7 : st7.i ≤ t.length := R7.ti
          have hgo := (mSign_go hm5).2.2
          exact ⟨t.length - st7.i, by omega, { st7 with ns := ns ++ [(sg, 2)] }, F7, rfl, R7, B7, rfl⟩
/-- a value that is no text -/
def NotStr (K : PySem.W.Frag) (H : Hp) (v : V) : Prop := ∃ t, TyX K H v t ∧ PySem.W.kitOne K t (.type "str") = some false
def ReadPost (a : Ad) (K : PySem.W.Frag) (F H : Hp) (t : List Nat) (r : Except Nat (List Row)) (Q : VK) (E : XK) : Prop :=
  (∀ rows, r = .ok rows → nSteps rows ≤ 100 → Post F H Q (IsE a K t rows)) ∧ (∀ rows, r = .ok rows → 100 < nSteps rows → Err a.C_TooMany "what" (.str "steps") H E) ∧ (∀ i, r = .error i → Bad a H E i)
def sp_Expression_read (a : Ad) (K : PySem.W.Frag) : Sp := fun vs H Q E => ∃ (F : Hp) (v : V), vs = [.ref a.C_Expression, v] ∧ Same F H ∧
  ((∃ (t : List Nat) (r : Except Nat (List Row)), v = .str (tx t) ∧ t.length ≤ 10000 ∧ Big true (start t) r ∧ ReadPost a K F H t r Q E) ∨ (NotStr K H v ∧ Err a.C_BadExpression "at" (.int (-1)) H E))
theorem ok_Expression_read (T : Txt K mg a) : FnOk P w K mg base (CX P w) 9 a.f_Expression_read a.fd_Expression_read ["cls", "text"]  (sp_Expression_read a K) := by
  refine T.F_Expression_read.okX sc_Expression_read (fun vs H Q E h => ?_) (fun cdv A outer s H vs Q E hr h => ?_)
  · obtain ⟨_, _, rfl, _⟩ := h
    rfl
  · obtain ⟨F, v, rfl, fh, h⟩ := h
    refine ⟨_, ((pss_cons (ps_if (pt_not (pt_val (pe_callB call_isi (by rfl) T.n_isinstance (by decide +kernel) (pa_cons (pv 1) (pa_cons (pe_bltn (v := .ty "str") (by rfl) T.n_str (by decide +kernel) rfl) pa_nil)))))
 (pss_one (ps_raiseO rfl (takes_of rfl rfl rfl rfl) T.ox_BadExpression T.m_BadExpression_init.at_ T.xt_BadExpression (ok_BadExpression_init T) (hr.mono (by decide)) T.b_BadExpression_init pass0 rfl T.g_BadExpression (pa_cons (pe_un un_neg pe_int) pa_nil)))
 pss_nil)
 (pss_cons (ps_set (i := 2) sc_Expression_read.nd rfl (Or.inl rfl) (pe_meth0 (pe_make T.mk_Reader (ok_Reader_init T) (hr.mono (by decide)) rfl T.g_Reader T.b_Reader_init .nil pass0 (pa_cons (pv 1) pa_nil)) T.cl_Reader T.m_Reader_whole (ok_Reader_whole T) hr T.b_Reader_whole .nil (passes_call (takes_of rfl rfl rfl rfl) (fun _ _ _ _ h => h))))
 (pss_cons (ps_if (pt_cmpR op_gt (pe_call (ok_count_steps T) (hr.mono (by decide)) rfl T.g_count_steps T.F_count_steps.kp T.b_count_steps .nil pass0 (pa_cons (pv 2) pa_nil)) (pe_glob (v := .int 100) rfl T.g_MOST ⟨_, rfl⟩) (nomark _))
 (pss_one (ps_raiseO rfl (takes_of rfl rfl rfl rfl) T.ox_TooMany T.m_TooMany_init.at_ T.xt_TooMany (ok_TooMany_init T) (hr.mono (by decide)) T.b_TooMany_init pass0 rfl T.g_TooMany (pa_cons pe_str pa_nil)))
 pss_nil)
 (pss_one (ps_ret (pe_makeL (i := 0) T.mk_Expression (ok_Expression_init T) (hr.mono (by decide)) rfl (Or.inl rfl) T.b_Expression_init pass0 (pa_cons (pv 1) (pa_cons (pv 2) pa_nil))))))))), ?_⟩
    try simp only [cxK]
    rcases h with ⟨t, r, rfl, hl, B, k1, k2, k3⟩ | ⟨⟨ty, ht, hk⟩, k⟩
    · lcg_off
      kas_types
      lcg_off
      refine iteF ?_
      lcg_off
      intro x dx nx ndx ne
      have h1 : (upd H dx (.own x)) x = none := upd_oldN ne.symm nx
      have g1 := ((Grow.refl (S := []) fh).new (o := .own x) ndx).newO (o := .ins a.C_Reader dx []) h1
      have fx : upd F dx (.own x) x = none := upd_oldN ne.symm (fh.free nx)
      refine ⟨F, H, _, x, dx, t, rfl, upd_same, fx, nx, g1, hl, fun nq rq H1 R1 => ⟨rfl, ?_⟩⟩
      have hs1 := R1.slf
      lcg_off
      refine ⟨F, H, _, x, dx, nq, rq, t, _, r, rfl, R1, B, fun rows F2 H2 q xs hr2 g2 e2 hxs hrl => ?_, fun i e => k3 i e⟩
      subst hr2
      lcg_off
      refine ⟨F2, .ref q, rows, rfl, g2.fh, .lst (sqL_of e2) hxs, hrl, fun F3 H3 v3 g3 e3 => ?_⟩
      subst e3
      have g23 := g2.trans g3
      lcg_off
      refine ifD (fun c => ?_) (fun c => ?_)
      · lcg_off
        refine rd_err1 fun d H' z1 z2 z3 => ?_
        exact k2 rows rfl (by omega) d H' (g23.same.trans z2) (g23.same.free z1) z3
      · lcg_off
        refine make_expr g3.fh (sqL_of (g3.fh _ _ (g3.ff _ _ e2))) (g3.fh _ _ (g3.ff _ _ e2)) (hxs.mono g3.ff) fun F4 H4 p4 g4 he => ?_
        exact k1 rows rfl (by omega) F4 H4 _ (g23.trans g4) ⟨p4, rfl, he⟩
    · lcg_off
      refine rd_isi (.ty _) ht hk ?_
      lcg_off
      refine iteT ?_
      lcg_off
      refine rd_err1 fun d H' z1 z2 z3 => ?_
      exact k d H' z2 z1 z3
end
/-- a right text is read -/
theorem read_ok {K : PySem.W.Frag} {a : Ad} {F H : Hp} {t : Tree} {Q : VK} {E : XK} (fh : Same F H) (ho : t.ok) (hn : nSteps t.rows ≤ 100) (hr : t.rows.length ≤ 500) (k : ∀ F' H' p, Grow [] F H F' H' → ExprAt a K F' p t.text t.rows → Q (.ref p) H') : sp_Expression_read a K [.ref a.C_Expression, .str (tx t.text)] H Q E := by
  have hl := t.text_len ho
  refine ⟨F, _, rfl, fh, .inl ⟨t.text, .ok t.rows, rfl, by omega, big_read t ho (Nat.le_trans t.deep_le hn), fun rows e _ F' H' v g ⟨p, ev, he⟩ => ?_, fun rows e h => ?_, fun i e => by cases e⟩⟩
  · cases e
    subst ev
    exact k F' H' p g he
  · cases e
    omega
end Ex

namespace Ex
open PySem L2 Hk
local macro_rules | `(tactic| array_mem_dec) => `(tactic| with_reducible first
  | assumption | exact upd_same
  | (apply upd_new; assumption; array_mem_dec)
  | (apply upd_old; tlg_ne; array_mem_dec)
  | (apply same_at; assumption; array_mem_dec))
local macro_rules | `(tactic| tlg_ne) => `(tactic| with_reducible first
  | assumption | (apply Ne.symm; assumption)
  | (apply ne_new; assumption; array_mem_dec) | (apply ne_new'; assumption; array_mem_dec)
  | (apply ne_of; assumption; assumption; (with_unfolding_all (intro z; cases z; done))))
local macro_rules | `(tactic| decreasing_trivial_pre_omega) => `(tactic| with_reducible first
  | assumption | (apply sqL_of; array_mem_dec) | (apply sqT_of; array_mem_dec)
  | (apply Same.seq; assumption; decreasing_trivial_pre_omega) | (apply sqT_same; assumption; decreasing_trivial_pre_omega)
  | (apply sqL_new; assumption; decreasing_trivial_pre_omega) | (apply sqL_upd; tlg_ne; decreasing_trivial_pre_omega))
local macro_rules | `(tactic| kpt_turns) => `(tactic| with_reducible first
  | assumption | exact Same.refl _ | (apply same_ext; kpt_turns; assumption) | (apply same_mut; kpt_turns; keq_hits) | (apply same_step; assumption; kpt_turns))
local macro_rules | `(tactic| keq_hits) => `(tactic| with_reducible first | assumption | (apply same_none; assumption; keq_hits))
local macro_rules | `(tactic| sizeOf_list_dec) => `(tactic| first | (with_reducible assumption) | (with_reducible_and_instances omega) | (with_unfolding_all decide))
local macro_rules | `(tactic| array_get_dec) => `(tactic| first | (with_reducible assumption) | (apply sz_of; (with_unfolding_all simp); done) | (apply sz_of; omega) | (apply sz_lt; (with_unfolding_all simp); done) | (apply sz_lt; omega))
local macro_rules | `(tactic| keq_rows) => `(tactic| with_reducible first
  | apply rd_asgN | apply rd_seq | apply rd_parA | apply rd_par3A | apply rd_par2 | apply rd_par3 | apply rd_m1 | apply rd_isStr | apply rd_cval | apply rd_asg | apply rd_gname | apply rd_op | (show tVar _ _ _ _; refine rd_var (by with_unfolding_all rfl) ?_) | apply rd_c | apply rd_I0
  | apply rd_cons | apply rd_nil | apply rd_cb | apply rd_test | apply rd_bl | apply rd_fld | apply rd_drop | apply rd_ret | apply rd_retN | apply rd_next
  | apply rd_ifS | apply rd_un | apply rd_B | apply rd_and | apply rd_or | apply rd_not | apply rd_andV | apply rd_orV | apply rd_notV | apply rd_if
  | apply rd_int | apply rd_abs | apply rd_max | apply rd_min | apply rd_strS | apply rd_U
  | apply rd_eqTx | apply rd_neTx | apply rd_inTx | apply rd_notInTx | apply rd_fmt | (show FmtK (.str (tx _)) _ _; refine rd_fmtT (by omega) ?_) | apply rd_jsC | apply rd_jsN | (show JsK _ (tx _) _ (.str (tx _)) _ _; refine rd_JsK (by first | omega | (simp; done) | (simp; omega)) ?_) | (show rAddStr (.str (tx _)) (.str (tx _)) _ _; refine rd_addT (by first | omega | (simp; done) | (simp; omega)) ?_) | (show rLenStr [.str (tx _)] _ _; refine rd_lenTx (by omega) ?_)
  | (show rEq _ _ _ _; refine rd_eq (by with_unfolding_all rfl) ?_) | (show rNe _ _ _ _; refine rd_ne (by with_unfolding_all rfl) ?_) | apply rd_isNone | apply rd_notNone
  | (show rIxL _ _ _ _ _; refine rd_ixL (by decreasing_trivial_pre_omega) (by with_unfolding_all rfl) ?_) | (show rIxT _ _ _ _ _; refine rd_ixT (by decreasing_trivial_pre_omega) (by with_unfolding_all rfl) ?_)
  | (show rLenSeq _ _ _ _; refine rd_lenL (by decreasing_trivial_pre_omega) ?_) | (show rLenSeq _ _ _ _; refine rd_lenT (by decreasing_trivial_pre_omega) ?_)
  | (show rI _ _ _ _ _ _; refine rd_mod (by sizeOf_list_dec) ?_) | (show rI _ _ _ _ _ _; refine rd_div (by sizeOf_list_dec) (by sizeOf_list_dec) ?_) | (show rI _ _ _ _ _ _; refine rd_mulR (by sizeOf_list_dec) (by sizeOf_list_dec) ?_) | (show rI _ _ _ _ _ _; refine rd_mulL (by sizeOf_list_dec) (by sizeOf_list_dec) ?_) | (show rI _ _ _ _ _ _; refine rd_pow (by sizeOf_list_dec) ?_)
  | (show rSetL _ _ _ _ _; refine rd_setL (by array_mem_dec) (by with_unfolding_all rfl) ?_)
  | apply rd_inSign | apply rd_notInSign | apply rd_tupK | apply rd_lstK | apply rd_sl | apply rd_noPart | apply rd_part | apply rd_isInt
  | apply rd_gsub | apply rd_gcons | apply rd_gnil | apply rd_call | apply rd_meth | apply rd_make | apply rd_smeth | apply rd_isC | apply rd_smethK | apply rd_cmeth | apply rd_cmethK
  | apply rd_bm | apply rd_bm0 | (show BmK _ _ _ _ _ _ _ _; refine rd_bmL (by array_mem_dec) ?_) | (show Bm0K _ _ _ _ _ _; refine rd_bm0L (by array_mem_dec) ?_) | apply rd_sfld | apply rd_aug | apply rd_rAdd | apply rd_brk | apply rd_cont
  | apply rd_for | apply rd_iList | (show IList _ _ _ _; refine rd_IList (by decreasing_trivial_pre_omega) ?_) | apply rd_iTup | (show ITup _ _ _ _; refine rd_ITup (by decreasing_trivial_pre_omega) ?_) | apply rd_iEnum | (show IEnum _ _ _ _; refine rd_IEnum (by decreasing_trivial_pre_omega) ?_) | apply rd_iRng1 | (show IRng1 _ _ _; refine rd_IRng1 (by sizeOf_list_dec) (by sizeOf_list_dec) ?_)
  | (show rLenStr _ _ _; refine rd_lenS (by array_get_dec) ?_) | (show rAddStr _ _ _ _; refine rd_addS (by array_get_dec) ?_) | (show rSlS _ _ _ _ _; refine rd_slS (by array_get_dec) ?_) | apply rd_lc | apply rd_yes | (show gTup _ _ _ _ _ _ _; refine rd_gtup (by decreasing_trivial_pre_omega) (by with_unfolding_all rfl) ?_) | (show tMakeL _ _ _ _ _ _ _ _; refine rd_makeL (by with_unfolding_all rfl) ?_))
local macro_rules | `(tactic| kas_types) => `(tactic| with_reducible first | apply rd_isi_int_int | apply rd_isi_int_bool | apply rd_isi_int_str | apply rd_isi_int_list | apply rd_isi_int_tuple | apply rd_isi_bool_int | apply rd_isi_bool_bool | apply rd_isi_bool_str | apply rd_isi_bool_list | apply rd_isi_bool_tuple | apply rd_isi_str_int | apply rd_isi_str_bool | apply rd_isi_str_str | apply rd_isi_str_list | apply rd_isi_str_tuple | (show rIsi _ _ _ _; refine rd_isi_list_int (by array_mem_dec) ?_) | (show rIsi _ _ _ _; refine rd_isi_list_bool (by array_mem_dec) ?_) | (show rIsi _ _ _ _; refine rd_isi_list_str (by array_mem_dec) ?_) | (show rIsi _ _ _ _; refine rd_isi_list_list (by array_mem_dec) ?_) | (show rIsi _ _ _ _; refine rd_isi_list_tuple (by array_mem_dec) ?_) | (show rIsi _ _ _ _; refine rd_isi_tuple_int (by array_mem_dec) ?_) | (show rIsi _ _ _ _; refine rd_isi_tuple_bool (by array_mem_dec) ?_) | (show rIsi _ _ _ _; refine rd_isi_tuple_str (by array_mem_dec) ?_) | (show rIsi _ _ _ _; refine rd_isi_tuple_list (by array_mem_dec) ?_) | (show rIsi _ _ _ _; refine rd_isi_tuple_tuple (by array_mem_dec) ?_) | apply rd_isi_NoneType_int | apply rd_isi_NoneType_bool | apply rd_isi_NoneType_str | apply rd_isi_NoneType_list | apply rd_isi_NoneType_tuple)
local macro_rules | `(tactic| lcg_src) => `(tactic| repeat keq_rows)

local macro_rules | `(tactic| lcg_off) => `(tactic| repeat keq_rows)
theorem alph_tx : Str.ofString "acdefghijk" = tx alph := by decide +kernel
theorem stems_eq : ([.str "a", .str "z", .str "q", .str "m"] : List V) = (stems.map fun c => [c]).map wd := by decide +kernel
section
variable {P : Program} {w : World} {K : PySem.W.Frag} {mg : Str → Option Value} {base : Heap} {a : Ad}
theorem wd_dpAll {F : Hp} (ws : List (List Nat)) : DpAll K F (ws.map wd) (ws.map strD) := by
  induction ws with
  | nil => exact .nil
  | cons x ws ih => exact .cons (.str _) ih
/-- one of some texts -/
theorem of_words {F H : Hp} {b : Addr} {l : Addr} {ws : List (List Nat)} {Q : VK} {E : XK} (hb : Bag F H b) (hl : F l = some (.lst (ws.map wd))) (h0 : 0 < ws.length) (h1 : ws.length < 1000) (k : ∀ x H', x ∈ ws → Grow [b] F H F H' → Bag F H' b → Q (.str (tx x)) H') : sp_law_of K [.ref b, .ref l] H Q E := by
  refine ⟨F, b, l, _, rfl, hb, sqL_of hl, by simpa using h0, by simpa using h1, fun i x H' e g h => ?_⟩
  rw [List.getElem?_map] at e
  cases hx : ws[i]? with
  | none => rw [hx] at e; cases e
  | some y =>
    rw [hx] at e
    cases e
    exact k y H' (List.mem_of_getElem? hx) g h
end
end Ex

namespace Ex
open PySem L2 Hk
local macro_rules | `(tactic| array_mem_dec) => `(tactic| with_reducible first
  | assumption | exact upd_same
  | (apply upd_new; assumption; array_mem_dec)
  | (apply upd_old; tlg_ne; array_mem_dec)
  | (apply same_at; assumption; array_mem_dec))
local macro_rules | `(tactic| tlg_ne) => `(tactic| with_reducible first
  | assumption | (apply Ne.symm; assumption)
  | (apply ne_new; assumption; array_mem_dec) | (apply ne_new'; assumption; array_mem_dec)
  | (apply ne_of; assumption; assumption; (with_unfolding_all (intro z; cases z; done))))
local macro_rules | `(tactic| decreasing_trivial_pre_omega) => `(tactic| with_reducible first
  | assumption | (apply sqL_of; array_mem_dec) | (apply sqT_of; array_mem_dec)
  | (apply Same.seq; assumption; decreasing_trivial_pre_omega) | (apply sqT_same; assumption; decreasing_trivial_pre_omega)
  | (apply sqL_new; assumption; decreasing_trivial_pre_omega) | (apply sqL_upd; tlg_ne; decreasing_trivial_pre_omega))
local macro_rules | `(tactic| kpt_turns) => `(tactic| with_reducible first
  | assumption | exact Same.refl _ | (apply same_ext; kpt_turns; assumption) | (apply same_mut; kpt_turns; keq_hits) | (apply same_step; assumption; kpt_turns))
local macro_rules | `(tactic| keq_hits) => `(tactic| with_reducible first | assumption | (apply same_none; assumption; keq_hits))
local macro_rules | `(tactic| sizeOf_list_dec) => `(tactic| first | (with_reducible assumption) | (with_reducible_and_instances omega) | (with_unfolding_all decide))
local macro_rules | `(tactic| array_get_dec) => `(tactic| first | (with_reducible assumption) | (apply sz_of; (with_unfolding_all simp); done) | (apply sz_of; omega) | (apply sz_lt; (with_unfolding_all simp); done) | (apply sz_lt; omega))
local macro_rules | `(tactic| keq_rows) => `(tactic| with_reducible first
  | apply rd_asgN | apply rd_seq | apply rd_parA | apply rd_par3A | apply rd_par2 | apply rd_par3 | apply rd_m1 | apply rd_isStr | apply rd_cval | apply rd_asg | apply rd_gname | apply rd_op | (show tVar _ _ _ _; refine rd_var (by with_unfolding_all rfl) ?_) | apply rd_c | apply rd_I0
  | apply rd_cons | apply rd_nil | apply rd_cb | apply rd_test | apply rd_bl | apply rd_fld | apply rd_drop | apply rd_ret | apply rd_retN | apply rd_next
  | apply rd_ifS | apply rd_un | apply rd_B | apply rd_and | apply rd_or | apply rd_not | apply rd_andV | apply rd_orV | apply rd_notV | apply rd_if
  | apply rd_int | apply rd_abs | apply rd_max | apply rd_min | apply rd_strS | apply rd_U
  | apply rd_eqTx | apply rd_neTx | apply rd_inTx | apply rd_notInTx | apply rd_fmt | (show FmtK (.str (tx _)) _ _; refine rd_fmtT (by omega) ?_) | apply rd_jsC | apply rd_jsN | (show JsK _ (tx _) _ (.str (tx _)) _ _; refine rd_JsK (by first | omega | (simp; done) | (simp; omega)) ?_) | (show rAddStr (.str (tx _)) (.str (tx _)) _ _; refine rd_addT (by first | omega | (simp; done) | (simp; omega)) ?_) | (show rLenStr [.str (tx _)] _ _; refine rd_lenTx (by omega) ?_)
  | (show rEq _ _ _ _; refine rd_eq (by with_unfolding_all rfl) ?_) | (show rNe _ _ _ _; refine rd_ne (by with_unfolding_all rfl) ?_) | apply rd_isNone | apply rd_notNone
  | (show rIxL _ _ _ _ _; refine rd_ixL (by decreasing_trivial_pre_omega) (by with_unfolding_all rfl) ?_) | (show rIxT _ _ _ _ _; refine rd_ixT (by decreasing_trivial_pre_omega) (by with_unfolding_all rfl) ?_)
  | (show rLenSeq _ _ _ _; refine rd_lenL (by decreasing_trivial_pre_omega) ?_) | (show rLenSeq _ _ _ _; refine rd_lenT (by decreasing_trivial_pre_omega) ?_)
  | (show rI _ _ _ _ _ _; refine rd_mod (by sizeOf_list_dec) ?_) | (show rI _ _ _ _ _ _; refine rd_div (by sizeOf_list_dec) (by sizeOf_list_dec) ?_) | (show rI _ _ _ _ _ _; refine rd_mulR (by sizeOf_list_dec) (by sizeOf_list_dec) ?_) | (show rI _ _ _ _ _ _; refine rd_mulL (by sizeOf_list_dec) (by sizeOf_list_dec) ?_) | (show rI _ _ _ _ _ _; refine rd_pow (by sizeOf_list_dec) ?_)
  | (show rSetL _ _ _ _ _; refine rd_setL (by array_mem_dec) (by with_unfolding_all rfl) ?_)
  | apply rd_inSign | apply rd_notInSign | apply rd_tupK | apply rd_lstK | apply rd_sl | apply rd_noPart | apply rd_part | apply rd_isInt
  | apply rd_gsub | apply rd_gcons | apply rd_gnil | apply rd_call | apply rd_meth | apply rd_make | apply rd_smeth | apply rd_isC | apply rd_smethK | apply rd_cmeth | apply rd_cmethK
  | apply rd_bm | apply rd_bm0 | (show BmK _ _ _ _ _ _ _ _; refine rd_bmL (by array_mem_dec) ?_) | (show Bm0K _ _ _ _ _ _; refine rd_bm0L (by array_mem_dec) ?_) | apply rd_sfld | apply rd_aug | apply rd_rAdd | apply rd_brk | apply rd_cont
  | apply rd_for | apply rd_iList | (show IList _ _ _ _; refine rd_IList (by decreasing_trivial_pre_omega) ?_) | apply rd_iTup | (show ITup _ _ _ _; refine rd_ITup (by decreasing_trivial_pre_omega) ?_) | apply rd_iEnum | (show IEnum _ _ _ _; refine rd_IEnum (by decreasing_trivial_pre_omega) ?_) | apply rd_iRng1 | (show IRng1 _ _ _; refine rd_IRng1 (by sizeOf_list_dec) (by sizeOf_list_dec) ?_)
  | (show rLenStr _ _ _; refine rd_lenS (by array_get_dec) ?_) | (show rAddStr _ _ _ _; refine rd_addS (by array_get_dec) ?_) | (show rSlS _ _ _ _ _; refine rd_slS (by array_get_dec) ?_) | apply rd_lc | apply rd_yes | (show gTup _ _ _ _ _ _ _; refine rd_gtup (by decreasing_trivial_pre_omega) (by with_unfolding_all rfl) ?_) | (show tMakeL _ _ _ _ _ _ _ _; refine rd_makeL (by with_unfolding_all rfl) ?_))
local macro_rules | `(tactic| kas_types) => `(tactic| with_reducible first | apply rd_isi_int_int | apply rd_isi_int_bool | apply rd_isi_int_str | apply rd_isi_int_list | apply rd_isi_int_tuple | apply rd_isi_bool_int | apply rd_isi_bool_bool | apply rd_isi_bool_str | apply rd_isi_bool_list | apply rd_isi_bool_tuple | apply rd_isi_str_int | apply rd_isi_str_bool | apply rd_isi_str_str | apply rd_isi_str_list | apply rd_isi_str_tuple | (show rIsi _ _ _ _; refine rd_isi_list_int (by array_mem_dec) ?_) | (show rIsi _ _ _ _; refine rd_isi_list_bool (by array_mem_dec) ?_) | (show rIsi _ _ _ _; refine rd_isi_list_str (by array_mem_dec) ?_) | (show rIsi _ _ _ _; refine rd_isi_list_list (by array_mem_dec) ?_) | (show rIsi _ _ _ _; refine rd_isi_list_tuple (by array_mem_dec) ?_) | (show rIsi _ _ _ _; refine rd_isi_tuple_int (by array_mem_dec) ?_) | (show rIsi _ _ _ _; refine rd_isi_tuple_bool (by array_mem_dec) ?_) | (show rIsi _ _ _ _; refine rd_isi_tuple_str (by array_mem_dec) ?_) | (show rIsi _ _ _ _; refine rd_isi_tuple_list (by array_mem_dec) ?_) | (show rIsi _ _ _ _; refine rd_isi_tuple_tuple (by array_mem_dec) ?_) | apply rd_isi_NoneType_int | apply rd_isi_NoneType_bool | apply rd_isi_NoneType_str | apply rd_isi_NoneType_list | apply rd_isi_NoneType_tuple)
local macro_rules | `(tactic| lcg_src) => `(tactic| repeat keq_rows)

local macro_rules | `(tactic| lcg_off) => `(tactic| repeat keq_rows)
theorem filt {α : Type} (l : List α) : (l.filter fun _ => true) = l := List.filter_eq_self.mpr fun _ _ => rfl
/-- an operation as the laws write it: its sign first, its arity last -/
def OpR (K : PySem.W.Frag) (F : Hp) (x : V) (o : List Nat × Nat) : Prop := ∃ q y1 y2, x = .ref q ∧ SqT K F q [.str (tx o.1), y1, y2, .int (o.2 : Nat)]
def OpsAt (K : PySem.W.Frag) (F : Hp) (v : V) (ops : List (List Nat × Nat)) : Prop := ∃ l xs, v = .ref l ∧ F l = some (.lst xs) ∧ AllR (OpR K F) xs ops
theorem OpR.mono {K : PySem.W.Frag} {F F' : Hp} {x : V} {o : List Nat × Nat} (e : Same F F') (h : OpR K F x o) : OpR K F' x o := by
  obtain ⟨q, y1, y2, rfl, h⟩ := h
  exact ⟨q, y1, y2, rfl, sqT_same e h⟩
theorem OpsAt.mono {K : PySem.W.Frag} {F F' : Hp} {v : V} {ops : List (List Nat × Nat)} (h : OpsAt K F v ops) (e : Same F F') : OpsAt K F' v ops := by
  obtain ⟨l, xs, rfl, h1, h2⟩ := h
  exact ⟨l, xs, rfl, e _ _ h1, h2.mono fun x y z => z.mono e⟩
/-- a program: a list of rows -/
def RowsL (K : PySem.W.Frag) (F : Hp) (x : V) (rows : List Row) : Prop := ∃ l ys, x = .ref l ∧ F l = some (.lst ys) ∧ DpAll K F ys (rows.map Row.dat)
theorem RowsL.mono {K : PySem.W.Frag} {F F' : Hp} {x : V} {rows : List Row} (h : RowsL K F x rows) (e : Same F F') : RowsL K F' x rows := by
  obtain ⟨l, ys, rfl, h1, h2⟩ := h
  exact ⟨l, ys, rfl, e _ _ h1, h2.mono e⟩
theorem RowsL.dp {K : PySem.W.Frag} {F : Hp} {x : V} {rows : List Row} (h : RowsL K F x rows) : Dp K F x (.list (rows.map Row.dat)) := by
  obtain ⟨l, ys, rfl, h1, h2⟩ := h
  exact .lst (sqL_of h1) h2
def PartsAt (K : PySem.W.Frag) (F : Hp) (xs : List V) (ts : List Tree) : Prop := AllR (fun x (t : Tree) => RowsL K F x t.rows) xs ts
theorem PartsAt.mono {K : PySem.W.Frag} {F F' : Hp} {xs : List V} {ts : List Tree} (h : PartsAt K F xs ts) (e : Same F F') : PartsAt K F' xs ts := AllR.mono h fun x t z => z.mono e
theorem ixN_nat {n k : Nat} (h : k < n) : ixN n (k : Int) = some k := by
  unfold ixN
  rw [if_pos (by omega), if_pos (by omega)]
  simp
def sgD (o : List Nat × Nat) : PyData := .tuple [.str (tx o.1), .int (o.2 : Nat)]
def opD (o : List Nat × Nat) : PyData := .tuple [.str (tx o.1), .list [], .str (tx []), .int (o.2 : Nat)]
theorem opR_of {K : PySem.W.Frag} {F : Hp} {x : V} {o : List Nat × Nat} (h : Dp K F x (opD o)) : OpR K F x o := by
  obtain ⟨q, xs, rfl, hs, ha⟩ := h.tup_inv
  cases ha with
  | cons h1 ha =>
    cases ha with
    | cons h2 ha =>
      cases ha with
      | cons h3 ha =>
        cases ha with
        | cons h4 ha =>
          cases ha
          rw [h1.str_inv, h4.int_inv] at hs
          exact ⟨q, _, _, rfl, hs⟩
theorem ops_of {K : PySem.W.Frag} {F : Hp} {xs : List V} {ops : List (List Nat × Nat)} (h : DpAll K F xs (ops.map opD)) : AllR (OpR K F) xs ops := by
  refine ⟨by simpa using h.length, fun i x o e1 e2 => ?_⟩
  obtain ⟨d, hd, hx⟩ := h.get e1
  rw [List.getElem?_map, e2] at hd
  cases hd
  exact opR_of hx
def allOps (ws : List (List Nat)) : List (List Nat × Nat) := (binaries.map fun s => (s, 2)) ++ (unaries.map fun s => (s, 1)) ++ (ws.map fun s => (s, 0))
theorem allOps_is {ws : List (List Nat)} (h : ∀ w ∈ ws, IsWord w ∧ w ∉ unaries) : ∀ o ∈ allOps ws, IsOp o := by
  intro o ho
  unfold allOps at ho
  rcases List.mem_append.mp ho with ho | ho
  · rcases List.mem_append.mp ho with ho | ho
    · obtain ⟨s, hs, rfl⟩ := List.mem_map.mp ho
      exact ⟨fun _ => hs, fun z => (by cases z), fun z => (by cases z)⟩
    · obtain ⟨s, hs, rfl⟩ := List.mem_map.mp ho
      exact ⟨fun z => (by cases z), fun _ => hs, fun z => (by cases z)⟩
  · obtain ⟨s, hs, rfl⟩ := List.mem_map.mp ho
    exact ⟨fun z => (by cases z), fun z => (by cases z), fun _ => h s hs⟩
theorem bins_eq : ([.str "+", .str "-", .str "*", .str "//", .str "&", .str "|", .str "^", .str "<<", .str ">>"] : List V) = binaries.map wd := by decide +kernel
section
variable {P : Program} {w : World} {K : PySem.W.Frag} {mg : Str → Option Value} {base : Heap} {a : Ad}
end
end Ex

set_option maxHeartbeats 8000000
namespace Ex
open PySem L2 Hk
local macro_rules | `(tactic| array_mem_dec) => `(tactic| with_reducible first
  | assumption | exact upd_same
  | (apply upd_new; assumption; array_mem_dec)
  | (apply upd_old; tlg_ne; array_mem_dec)
  | (apply same_at; assumption; array_mem_dec))
local macro_rules | `(tactic| tlg_ne) => `(tactic| with_reducible first
  | assumption | (apply Ne.symm; assumption)
  | (apply ne_new; assumption; array_mem_dec) | (apply ne_new'; assumption; array_mem_dec)
  | (apply ne_of; assumption; assumption; (with_unfolding_all (intro z; cases z; done))))
local macro_rules | `(tactic| decreasing_trivial_pre_omega) => `(tactic| with_reducible first
  | assumption | (apply sqL_of; array_mem_dec) | (apply sqT_of; array_mem_dec)
  | (apply Same.seq; assumption; decreasing_trivial_pre_omega) | (apply sqT_same; assumption; decreasing_trivial_pre_omega)
  | (apply sqL_new; assumption; decreasing_trivial_pre_omega) | (apply sqL_upd; tlg_ne; decreasing_trivial_pre_omega))
local macro_rules | `(tactic| kpt_turns) => `(tactic| with_reducible first
  | assumption | exact Same.refl _ | (apply same_ext; kpt_turns; assumption) | (apply same_mut; kpt_turns; keq_hits) | (apply same_step; assumption; kpt_turns))
local macro_rules | `(tactic| keq_hits) => `(tactic| with_reducible first | assumption | (apply same_none; assumption; keq_hits))
local macro_rules | `(tactic| sizeOf_list_dec) => `(tactic| first | (with_reducible assumption) | (with_reducible_and_instances omega) | (with_unfolding_all decide))
local macro_rules | `(tactic| array_get_dec) => `(tactic| first | (with_reducible assumption) | (apply sz_of; (with_unfolding_all simp); done) | (apply sz_of; omega) | (apply sz_lt; (with_unfolding_all simp); done) | (apply sz_lt; omega))
local macro_rules | `(tactic| keq_rows) => `(tactic| with_reducible first
  | apply rd_asgN | apply rd_seq | apply rd_parA | apply rd_par3A | apply rd_par2 | apply rd_par3 | apply rd_m1 | apply rd_isStr | apply rd_cval | apply rd_asg | apply rd_gname | apply rd_op | (show tVar _ _ _ _; refine rd_var (by with_unfolding_all rfl) ?_) | apply rd_c | apply rd_I0
  | apply rd_cons | apply rd_nil | apply rd_cb | apply rd_test | apply rd_bl | apply rd_fld | apply rd_drop | apply rd_ret | apply rd_retN | apply rd_next
  | apply rd_ifS | apply rd_un | apply rd_B | apply rd_and | apply rd_or | apply rd_not | apply rd_andV | apply rd_orV | apply rd_notV | apply rd_if
  | apply rd_int | apply rd_abs | apply rd_max | apply rd_min | apply rd_strS | apply rd_U
  | apply rd_eqTx | apply rd_neTx | apply rd_inTx | apply rd_notInTx | apply rd_fmt | (show FmtK (.str (tx _)) _ _; refine rd_fmtT (by omega) ?_) | apply rd_jsC | apply rd_jsN | (show JsK _ (tx _) _ (.str (tx _)) _ _; refine rd_JsK (by first | omega | (simp; done) | (simp; omega)) ?_) | (show rAddStr (.str (tx _)) (.str (tx _)) _ _; refine rd_addT (by first | omega | (simp; done) | (simp; omega)) ?_) | (show rLenStr [.str (tx _)] _ _; refine rd_lenTx (by omega) ?_)
  | (show rEq _ _ _ _; refine rd_eq (by with_unfolding_all rfl) ?_) | (show rNe _ _ _ _; refine rd_ne (by with_unfolding_all rfl) ?_) | apply rd_isNone | apply rd_notNone
  | (show rIxL _ _ _ _ _; refine rd_ixL (by decreasing_trivial_pre_omega) (by with_unfolding_all rfl) ?_) | (show rIxT _ _ _ _ _; refine rd_ixT (by decreasing_trivial_pre_omega) (by with_unfolding_all rfl) ?_)
  | (show rLenSeq _ _ _ _; refine rd_lenL (by decreasing_trivial_pre_omega) ?_) | (show rLenSeq _ _ _ _; refine rd_lenT (by decreasing_trivial_pre_omega) ?_)
  | (show rI _ _ _ _ _ _; refine rd_mod (by sizeOf_list_dec) ?_) | (show rI _ _ _ _ _ _; refine rd_div (by sizeOf_list_dec) (by sizeOf_list_dec) ?_) | (show rI _ _ _ _ _ _; refine rd_mulR (by sizeOf_list_dec) (by sizeOf_list_dec) ?_) | (show rI _ _ _ _ _ _; refine rd_mulL (by sizeOf_list_dec) (by sizeOf_list_dec) ?_) | (show rI _ _ _ _ _ _; refine rd_pow (by sizeOf_list_dec) ?_)
  | (show rSetL _ _ _ _ _; refine rd_setL (by array_mem_dec) (by with_unfolding_all rfl) ?_)
  | apply rd_inSign | apply rd_notInSign | apply rd_tupK | apply rd_lstK | apply rd_sl | apply rd_noPart | apply rd_part | apply rd_isInt
  | apply rd_gsub | apply rd_gcons | apply rd_gnil | apply rd_call | apply rd_meth | apply rd_make | apply rd_smeth | apply rd_isC | apply rd_smethK | apply rd_cmeth | apply rd_cmethK
  | apply rd_bm | apply rd_bm0 | (show BmK _ _ _ _ _ _ _ _; refine rd_bmL (by array_mem_dec) ?_) | (show Bm0K _ _ _ _ _ _; refine rd_bm0L (by array_mem_dec) ?_) | apply rd_sfld | apply rd_aug | apply rd_rAdd | apply rd_brk | apply rd_cont
  | apply rd_for | apply rd_iList | (show IList _ _ _ _; refine rd_IList (by decreasing_trivial_pre_omega) ?_) | apply rd_iTup | (show ITup _ _ _ _; refine rd_ITup (by decreasing_trivial_pre_omega) ?_) | apply rd_iEnum | (show IEnum _ _ _ _; refine rd_IEnum (by decreasing_trivial_pre_omega) ?_) | apply rd_iRng1 | (show IRng1 _ _ _; refine rd_IRng1 (by sizeOf_list_dec) (by sizeOf_list_dec) ?_)
  | (show rLenStr _ _ _; refine rd_lenS (by array_get_dec) ?_) | (show rAddStr _ _ _ _; refine rd_addS (by array_get_dec) ?_) | (show rSlS _ _ _ _ _; refine rd_slS (by array_get_dec) ?_) | apply rd_lc | apply rd_yes | (show gTup _ _ _ _ _ _ _; refine rd_gtup (by decreasing_trivial_pre_omega) (by with_unfolding_all rfl) ?_) | (show tMakeL _ _ _ _ _ _ _ _; refine rd_makeL (by with_unfolding_all rfl) ?_))
local macro_rules | `(tactic| kas_types) => `(tactic| with_reducible first | apply rd_isi_int_int | apply rd_isi_int_bool | apply rd_isi_int_str | apply rd_isi_int_list | apply rd_isi_int_tuple | apply rd_isi_bool_int | apply rd_isi_bool_bool | apply rd_isi_bool_str | apply rd_isi_bool_list | apply rd_isi_bool_tuple | apply rd_isi_str_int | apply rd_isi_str_bool | apply rd_isi_str_str | apply rd_isi_str_list | apply rd_isi_str_tuple | (show rIsi _ _ _ _; refine rd_isi_list_int (by array_mem_dec) ?_) | (show rIsi _ _ _ _; refine rd_isi_list_bool (by array_mem_dec) ?_) | (show rIsi _ _ _ _; refine rd_isi_list_str (by array_mem_dec) ?_) | (show rIsi _ _ _ _; refine rd_isi_list_list (by array_mem_dec) ?_) | (show rIsi _ _ _ _; refine rd_isi_list_tuple (by array_mem_dec) ?_) | (show rIsi _ _ _ _; refine rd_isi_tuple_int (by array_mem_dec) ?_) | (show rIsi _ _ _ _; refine rd_isi_tuple_bool (by array_mem_dec) ?_) | (show rIsi _ _ _ _; refine rd_isi_tuple_str (by array_mem_dec) ?_) | (show rIsi _ _ _ _; refine rd_isi_tuple_list (by array_mem_dec) ?_) | (show rIsi _ _ _ _; refine rd_isi_tuple_tuple (by array_mem_dec) ?_) | apply rd_isi_NoneType_int | apply rd_isi_NoneType_bool | apply rd_isi_NoneType_str | apply rd_isi_NoneType_list | apply rd_isi_NoneType_tuple)
local macro_rules | `(tactic| lcg_src) => `(tactic| repeat keq_rows)

local macro_rules | `(tactic| lcg_off) => `(tactic| repeat keq_rows)
/-- how many rows some trees have -/
def sz (ts : List Tree) : Nat := (ts.map (·.rows.length)).sum
theorem sz_get : ∀ {ts : List Tree} {k : Nat} {t : Tree}, ts[k]? = some t → t.rows.length ≤ sz ts
  | [], k, t, h => by simp at h
  | x :: ts, 0, t, h => by
    cases h
    simp [sz]
  | x :: ts, k + 1, t, h => by
    have := sz_get (ts := ts) (k := k) (t := t) (by simpa using h)
    simp [sz] at this ⊢
    omega
theorem sz_set : ∀ {ts : List Tree} {k : Nat} {t t' : Tree}, ts[k]? = some t → sz (ts.set k t') + t.rows.length = sz ts + t'.rows.length
  | [], k, t, t', h => by simp at h
  | x :: ts, 0, t, t', h => by
    cases h
    simp [sz]
    omega
  | x :: ts, k + 1, t, t', h => by
    have := sz_set (ts := ts) (k := k) (t := t) (t' := t') (by simpa using h)
    simp [sz] at this ⊢
    omega
theorem sz_erase : ∀ {ts : List Tree} {k : Nat} {t : Tree}, ts[k]? = some t → sz (ts.eraseIdx k) + t.rows.length = sz ts
  | [], k, t, h => by simp at h
  | x :: ts, 0, t, h => by
    cases h
    simp [sz]
    omega
  | x :: ts, k + 1, t, h => by
    have := sz_erase (ts := ts) (k := k) (t := t) (by simpa using h)
    simp [sz] at this ⊢
    omega
theorem sz_snoc (ts : List Tree) (t : Tree) : sz (ts ++ [t]) = sz ts + t.rows.length := by simp [sz]
/-- the parts of a program that is being drawn: at pp a list of programs of trees -/
structure PI (K : PySem.W.Frag) (F H F3 : Hp) (b pp : Addr) (F1 H1 : Hp) (ts : List Tree) (xs : List V) : Prop where
  g : Grow [b] F H F1 H1
  q : Same F3 F1
  bag : Bag F1 H1 b
  hp : Hold F1 H1 pp (.lst xs)
  P : PartsAt K F1 xs ts
  ok : ∀ t ∈ ts, Tree.ok t
  npp : H pp = none
  npb : pp ≠ b
section
variable {K : PySem.W.Frag} {F H F3 F1 H1 F2 H2 : Hp} {b pp l : Addr} {ts : List Tree} {xs : List V} {t : Tree} {k : Nat}
theorem PI.go0 (h : PI K F H F3 b pp F1 H1 ts xs) (g : Grow [] F1 H1 F2 H2) : PI K F H F3 b pp F2 H2 ts xs :=
  ⟨h.g.trans g.weak, h.q.trans g.ff, h.bag.go0 g, h.hp.go0 g, h.P.mono g.ff, h.ok, h.npp, h.npb⟩
theorem PI.goB (h : PI K F H F3 b pp F1 H1 ts xs) (g : Grow [b] F1 H1 F2 H2) (hb : Bag F2 H2 b) : PI K F H F3 b pp F2 H2 ts xs :=
  ⟨h.g.trans g, h.q.trans g.ff, hb, h.hp.goB g h.npb, h.P.mono g.ff, h.ok, h.npp, h.npb⟩
theorem PI.put (h : PI K F H F3 b pp F1 H1 ts xs) {ts' : List Tree} {xs' : List V} (hP : PartsAt K F1 xs' ts') (hok : ∀ t ∈ ts', Tree.ok t) : PI K F H F3 b pp F1 (upd H1 pp (.lst xs')) ts' xs' :=
  ⟨h.g.mut h.hp.f (.inr h.npp), h.q, h.bag.mut h.hp h.npb, h.hp.put, hP, hok, h.npp, h.npb⟩
theorem PI.snoc (h : PI K F H F3 b pp F1 H1 ts xs) (hr : RowsL K F1 (.ref l) t.rows) (ho : t.ok) : PI K F H F3 b pp F1 (upd H1 pp (.lst (xs ++ [.ref l]))) (ts ++ [t]) (xs ++ [.ref l]) :=
  h.put (AllR.snoc h.P hr) fun z hz => by
    rcases List.mem_append.mp hz with y | y
    · exact h.ok z y
    · rw [List.mem_singleton.mp y]; exact ho
theorem PI.set (h : PI K F H F3 b pp F1 H1 ts xs) (hr : RowsL K F1 (.ref l) t.rows) (ho : t.ok) : PI K F H F3 b pp F1 (upd H1 pp (.lst (xs.set k (.ref l)))) (ts.set k t) (xs.set k (.ref l)) :=
  h.put (AllR.set h.P hr) fun z hz => by
    rcases List.mem_or_eq_of_mem_set hz with y | rfl
    · exact h.ok z y
    · exact ho
theorem PI.erase (h : PI K F H F3 b pp F1 H1 ts xs) : PI K F H F3 b pp F1 (upd H1 pp (.lst (xs.eraseIdx k))) (ts.eraseIdx k) (xs.eraseIdx k) :=
  h.put (AllR.erase h.P) fun z hz => h.ok z (List.mem_of_mem_eraseIdx hz)
theorem PI.len (h : PI K F H F3 b pp F1 H1 ts xs) : xs.length = ts.length := AllR.len h.P
theorem PI.get (h : PI K F H F3 b pp F1 H1 ts xs) (hk : k < ts.length) : ∃ lk yk tk, xs[k]? = some (.ref lk) ∧ ts[k]? = some tk ∧ F1 lk = some (.lst yk) ∧ DpAll K F1 yk (tk.rows.map Row.dat) ∧ yk.length = tk.rows.length ∧ tk.ok := by
  have hl := h.len
  have ek : xs[k]? = some xs[k] := List.getElem?_eq_getElem (by omega)
  obtain ⟨tk, htk, hR⟩ := AllR.get h.P ek
  obtain ⟨lk, yk, e, h1, h2⟩ := hR
  rw [e] at ek
  exact ⟨lk, yk, tk, ek, htk, h1, h2, by simpa using h2.length, h.ok tk (List.mem_of_getElem? htk)⟩
end
section
variable {P : Program} {w : World} {K : PySem.W.Frag} {mg : Str → Option Value} {base : Heap} {a : Ad}
/-- signs of one arity, by a comprehension -/
theorem arity_take {n i : Nat} {ops : List (List Nat × Nat)} {o : List Nat × Nat} (h : ops[i]? = some o) : ofArity n (ops.take (i + 1)) = ofArity n (ops.take i) ++ (if decide (o.2 = n) then [o.1] else []) := by
  unfold ofArity
  rw [filter_take_succ _ h, List.map_append]
  congr 1
  split <;> rfl
theorem arity_len (n : Nat) (ops : List (List Nat × Nat)) : (ofArity n ops).length ≤ ops.length := by
  unfold ofArity
  rw [List.length_map]
  exact List.length_filter_le _ _
end
end Ex

namespace Ex
open PySem L2 Hk
local macro_rules | `(tactic| array_mem_dec) => `(tactic| with_reducible first
  | assumption | exact upd_same
  | (apply upd_new; assumption; array_mem_dec)
  | (apply upd_old; tlg_ne; array_mem_dec)
  | (apply same_at; assumption; array_mem_dec))
local macro_rules | `(tactic| tlg_ne) => `(tactic| with_reducible first
  | assumption | (apply Ne.symm; assumption)
  | (apply ne_new; assumption; array_mem_dec) | (apply ne_new'; assumption; array_mem_dec)
  | (apply ne_of; assumption; assumption; (with_unfolding_all (intro z; cases z; done))))
local macro_rules | `(tactic| decreasing_trivial_pre_omega) => `(tactic| with_reducible first
  | assumption | (apply sqL_of; array_mem_dec) | (apply sqT_of; array_mem_dec)
  | (apply Same.seq; assumption; decreasing_trivial_pre_omega) | (apply sqT_same; assumption; decreasing_trivial_pre_omega)
  | (apply sqL_new; assumption; decreasing_trivial_pre_omega) | (apply sqL_upd; tlg_ne; decreasing_trivial_pre_omega))
local macro_rules | `(tactic| kpt_turns) => `(tactic| with_reducible first
  | assumption | exact Same.refl _ | (apply same_ext; kpt_turns; assumption) | (apply same_mut; kpt_turns; keq_hits) | (apply same_step; assumption; kpt_turns))
local macro_rules | `(tactic| keq_hits) => `(tactic| with_reducible first | assumption | (apply same_none; assumption; keq_hits))
local macro_rules | `(tactic| sizeOf_list_dec) => `(tactic| first | (with_reducible assumption) | (with_reducible_and_instances omega) | (with_unfolding_all decide))
local macro_rules | `(tactic| array_get_dec) => `(tactic| first | (with_reducible assumption) | (apply sz_of; (with_unfolding_all simp); done) | (apply sz_of; omega) | (apply sz_lt; (with_unfolding_all simp); done) | (apply sz_lt; omega))
local macro_rules | `(tactic| keq_rows) => `(tactic| with_reducible first
  | apply rd_asgN | apply rd_seq | apply rd_parA | apply rd_par3A | apply rd_par2 | apply rd_par3 | apply rd_m1 | apply rd_isStr | apply rd_cval | apply rd_asg | apply rd_gname | apply rd_op | (show tVar _ _ _ _; refine rd_var (by with_unfolding_all rfl) ?_) | apply rd_c | apply rd_I0
  | apply rd_cons | apply rd_nil | apply rd_cb | apply rd_test | apply rd_bl | apply rd_fld | apply rd_drop | apply rd_ret | apply rd_retN | apply rd_next
  | apply rd_ifS | apply rd_un | apply rd_B | apply rd_and | apply rd_or | apply rd_not | apply rd_andV | apply rd_orV | apply rd_notV | apply rd_if
  | apply rd_int | apply rd_abs | apply rd_max | apply rd_min | apply rd_strS | apply rd_U
  | apply rd_eqTx | apply rd_neTx | apply rd_inTx | apply rd_notInTx | apply rd_fmt | (show FmtK (.str (tx _)) _ _; refine rd_fmtT (by omega) ?_) | apply rd_jsC | apply rd_jsN | (show JsK _ (tx _) _ (.str (tx _)) _ _; refine rd_JsK (by first | omega | (simp; done) | (simp; omega)) ?_) | (show rAddStr (.str (tx _)) (.str (tx _)) _ _; refine rd_addT (by first | omega | (simp; done) | (simp; omega)) ?_) | (show rLenStr [.str (tx _)] _ _; refine rd_lenTx (by omega) ?_)
  | (show rEq _ _ _ _; refine rd_eq (by with_unfolding_all rfl) ?_) | (show rNe _ _ _ _; refine rd_ne (by with_unfolding_all rfl) ?_) | apply rd_isNone | apply rd_notNone
  | (show rIxL _ _ _ _ _; refine rd_ixL (by decreasing_trivial_pre_omega) (by with_unfolding_all rfl) ?_) | (show rIxT _ _ _ _ _; refine rd_ixT (by decreasing_trivial_pre_omega) (by with_unfolding_all rfl) ?_)
  | (show rLenSeq _ _ _ _; refine rd_lenL (by decreasing_trivial_pre_omega) ?_) | (show rLenSeq _ _ _ _; refine rd_lenT (by decreasing_trivial_pre_omega) ?_)
  | (show rI _ _ _ _ _ _; refine rd_mod (by sizeOf_list_dec) ?_) | (show rI _ _ _ _ _ _; refine rd_div (by sizeOf_list_dec) (by sizeOf_list_dec) ?_) | (show rI _ _ _ _ _ _; refine rd_mulR (by sizeOf_list_dec) (by sizeOf_list_dec) ?_) | (show rI _ _ _ _ _ _; refine rd_mulL (by sizeOf_list_dec) (by sizeOf_list_dec) ?_) | (show rI _ _ _ _ _ _; refine rd_pow (by sizeOf_list_dec) ?_)
  | (show rSetL _ _ _ _ _; refine rd_setL (by array_mem_dec) (by with_unfolding_all rfl) ?_)
  | apply rd_inSign | apply rd_notInSign | apply rd_tupK | apply rd_lstK | apply rd_sl | apply rd_noPart | apply rd_part | apply rd_isInt
  | apply rd_gsub | apply rd_gcons | apply rd_gnil | apply rd_call | apply rd_meth | apply rd_make | apply rd_smeth | apply rd_isC | apply rd_smethK | apply rd_cmeth | apply rd_cmethK
  | apply rd_bm | apply rd_bm0 | (show BmK _ _ _ _ _ _ _ _; refine rd_bmL (by array_mem_dec) ?_) | (show Bm0K _ _ _ _ _ _; refine rd_bm0L (by array_mem_dec) ?_) | apply rd_sfld | apply rd_aug | apply rd_rAdd | apply rd_brk | apply rd_cont
  | apply rd_for | apply rd_iList | (show IList _ _ _ _; refine rd_IList (by decreasing_trivial_pre_omega) ?_) | apply rd_iTup | (show ITup _ _ _ _; refine rd_ITup (by decreasing_trivial_pre_omega) ?_) | apply rd_iEnum | (show IEnum _ _ _ _; refine rd_IEnum (by decreasing_trivial_pre_omega) ?_) | apply rd_iRng1 | (show IRng1 _ _ _; refine rd_IRng1 (by sizeOf_list_dec) (by sizeOf_list_dec) ?_)
  | (show rLenStr _ _ _; refine rd_lenS (by array_get_dec) ?_) | (show rAddStr _ _ _ _; refine rd_addS (by array_get_dec) ?_) | (show rSlS _ _ _ _ _; refine rd_slS (by array_get_dec) ?_) | apply rd_lc | apply rd_yes | (show gTup _ _ _ _ _ _ _; refine rd_gtup (by decreasing_trivial_pre_omega) (by with_unfolding_all rfl) ?_) | (show tMakeL _ _ _ _ _ _ _ _; refine rd_makeL (by with_unfolding_all rfl) ?_))
local macro_rules | `(tactic| kas_types) => `(tactic| with_reducible first | apply rd_isi_int_int | apply rd_isi_int_bool | apply rd_isi_int_str | apply rd_isi_int_list | apply rd_isi_int_tuple | apply rd_isi_bool_int | apply rd_isi_bool_bool | apply rd_isi_bool_str | apply rd_isi_bool_list | apply rd_isi_bool_tuple | apply rd_isi_str_int | apply rd_isi_str_bool | apply rd_isi_str_str | apply rd_isi_str_list | apply rd_isi_str_tuple | (show rIsi _ _ _ _; refine rd_isi_list_int (by array_mem_dec) ?_) | (show rIsi _ _ _ _; refine rd_isi_list_bool (by array_mem_dec) ?_) | (show rIsi _ _ _ _; refine rd_isi_list_str (by array_mem_dec) ?_) | (show rIsi _ _ _ _; refine rd_isi_list_list (by array_mem_dec) ?_) | (show rIsi _ _ _ _; refine rd_isi_list_tuple (by array_mem_dec) ?_) | (show rIsi _ _ _ _; refine rd_isi_tuple_int (by array_mem_dec) ?_) | (show rIsi _ _ _ _; refine rd_isi_tuple_bool (by array_mem_dec) ?_) | (show rIsi _ _ _ _; refine rd_isi_tuple_str (by array_mem_dec) ?_) | (show rIsi _ _ _ _; refine rd_isi_tuple_list (by array_mem_dec) ?_) | (show rIsi _ _ _ _; refine rd_isi_tuple_tuple (by array_mem_dec) ?_) | apply rd_isi_NoneType_int | apply rd_isi_NoneType_bool | apply rd_isi_NoneType_str | apply rd_isi_NoneType_list | apply rd_isi_NoneType_tuple)
local macro_rules | `(tactic| lcg_src) => `(tactic| repeat keq_rows)

local macro_rules | `(tactic| lcg_off) => `(tactic| repeat keq_rows)
section
variable {K : PySem.W.Frag} {a : Ad} {F H : Hp} {p1 p2 : Addr} {t1 t2 s : List Nat} {r1 r2 : List Row} {Q : VK} {E : XK}
theorem ask_opb (fh : Same F H) (h1 : ExprAt a K F p1 t1 r1) (h2 : ExprAt a K F p2 t2 r2) (l1 : t1.length ≤ 10000) (l2 : t2.length ≤ 10000) (l3 : r1.length ≤ 1000) (l4 : r2.length ≤ 1000) (k : BinPost a K s F H t1 r1 t2 r2 Q E) : rBinO a.C_Expression (sp_opb a K s) E (.ref p1) (.ref p2) H Q := by
  obtain ⟨dx1, q1, xs1, hp1, _, _⟩ := h1.ex
  obtain ⟨dx2, q2, xs2, hp2, _, _⟩ := h2.ex
  refine ⟨p1, dx1, _, p2, dx2, _, rfl, rfl, fh _ _ hp1, fh _ _ hp2, F, p1, p2, t1, t2, r1, r2, rfl, fh, h1, h2, l1, l2, l3, l4, fun c F' H' v g e => ?_, k.2⟩
  obtain ⟨p, rfl, he⟩ := e
  exact ⟨p, rfl, k.1 c F' H' _ g ⟨p, rfl, he⟩⟩
theorem ask_opu (fh : Same F H) (h1 : ExprAt a K F p1 t1 r1) (l1 : t1.length ≤ 10000) (l3 : r1.length ≤ 1000) (k : UnPost a K s F H t1 r1 Q E) : rUnO a.C_Expression (sp_opu a K s) E (.ref p1) H Q := by
  obtain ⟨dx1, q1, xs1, hp1, _, _⟩ := h1.ex
  exact ⟨p1, dx1, _, rfl, fh _ _ hp1, F, p1, t1, r1, rfl, fh, h1, l1, l3, k⟩
theorem ask_abs (fh : Same F H) (h1 : ExprAt a K F p1 t1 r1) (l1 : t1.length ≤ 10000) (l3 : r1.length ≤ 1000) (k : UnPost a K s F H t1 r1 Q E) : rAbsO a.C_Expression (sp_opu a K s) E [.ref p1] H Q := by
  obtain ⟨dx1, q1, xs1, hp1, _, _⟩ := h1.ex
  exact ⟨p1, dx1, _, rfl, fh _ _ hp1, F, p1, t1, r1, rfl, fh, h1, l1, l3, k⟩
end
section
variable {P : Program} {w : World} {K : PySem.W.Frag} {mg : Str → Option Value} {base : Heap} {a : Ad}
def sp_law_joined (a : Ad) (K : PySem.W.Frag) : Sp := fun vs H Q E => ∃ (F : Hp) (s : List Nat) (p1 p2 : Addr) (t1 t2 : List Nat) (r1 r2 : List Row), vs = [.str (tx s), .ref p1, .ref p2] ∧ s ∈ binaries ∧ Same F H ∧ ExprAt a K F p1 t1 r1 ∧ ExprAt a K F p2 t2 r2 ∧
  t1.length ≤ 10000 ∧ t2.length ≤ 10000 ∧ r1.length ≤ 1000 ∧ r2.length ≤ 1000 ∧ BinPost a K s F H t1 r1 t2 r2 Q E
theorem ok_law_joined (T : Txt K mg a) : FnOk P w K mg base (CX P w) 5 a.f_law_joined a.fd_law_joined ["_law_sign", "_law_one", "_law_other"]  (sp_law_joined a K) := by
  refine T.F_law_joined.okX sc_law_joined (fun vs H Q E h => ?_) (fun cdv A outer s H vs Q E hr h => ?_)
  · obtain ⟨_, _, _, _, _, _, _, _, rfl, _⟩ := h
    rfl
  · obtain ⟨F, sg, p1, p2, t1, t2, r1, r2, rfl, hs, fh, h1, h2, l1, l2, l3, l4, k⟩ := h
    refine ⟨_, ((pss_cons (ps_if (pt_cmpR op_eq (pv 0) pe_str (nomark _))
 (pss_one (ps_ret (pe_op (op_binO (own_Expression_add T (passes_call (takes_of rfl rfl rfl rfl) (fun _ _ _ _ h => h))) T.sf_Expression hr) (pv 1) (pv 2))))
 pss_nil)
 (pss_cons (ps_if (pt_cmpR op_eq (pv 0) pe_str (nomark _))
 (pss_one (ps_ret (pe_op (op_binO (own_Expression_sub T (passes_call (takes_of rfl rfl rfl rfl) (fun _ _ _ _ h => h))) T.sf_Expression hr) (pv 1) (pv 2))))
 pss_nil)
 (pss_cons (ps_if (pt_cmpR op_eq (pv 0) pe_str (nomark _))
 (pss_one (ps_ret (pe_op (op_binO (own_Expression_mul T (passes_call (takes_of rfl rfl rfl rfl) (fun _ _ _ _ h => h))) T.sf_Expression hr) (pv 1) (pv 2))))
 pss_nil)
 (pss_cons (ps_if (pt_cmpR op_eq (pv 0) pe_str (nomark _))
 (pss_one (ps_ret (pe_op (op_binO (own_Expression_floordiv T (passes_call (takes_of rfl rfl rfl rfl) (fun _ _ _ _ h => h))) T.sf_Expression hr) (pv 1) (pv 2))))
 pss_nil)
 (pss_cons (ps_if (pt_cmpR op_eq (pv 0) pe_str (nomark _))
 (pss_one (ps_ret (pe_op (op_binO (own_Expression_and T (passes_call (takes_of rfl rfl rfl rfl) (fun _ _ _ _ h => h))) T.sf_Expression hr) (pv 1) (pv 2))))
 pss_nil)
 (pss_cons (ps_if (pt_cmpR op_eq (pv 0) pe_str (nomark _))
 (pss_one (ps_ret (pe_op (op_binO (own_Expression_or T (passes_call (takes_of rfl rfl rfl rfl) (fun _ _ _ _ h => h))) T.sf_Expression hr) (pv 1) (pv 2))))
 pss_nil)
 (pss_cons (ps_if (pt_cmpR op_eq (pv 0) pe_str (nomark _))
 (pss_one (ps_ret (pe_op (op_binO (own_Expression_xor T (passes_call (takes_of rfl rfl rfl rfl) (fun _ _ _ _ h => h))) T.sf_Expression hr) (pv 1) (pv 2))))
 pss_nil)
 (pss_one (ps_ret (pe_ifExp (pt_cmpR op_eq (pv 0) pe_str (nomark _)) (pe_op (op_binO (own_Expression_lshift T (passes_call (takes_of rfl rfl rfl rfl) (fun _ _ _ _ h => h))) T.sf_Expression hr) (pv 1) (pv 2)) (pe_op (op_binO (own_Expression_rshift T (passes_call (takes_of rfl rfl rfl rfl) (fun _ _ _ _ h => h))) T.sf_Expression hr) (pv 1) (pv 2))))))))))))), ?_⟩
    try simp only [cxK, add_tx, sub_tx, mul_tx, floordiv_tx, and_tx, or_tx, xor_tx, lshift_tx]
    unfold binaries at hs
    simp only [List.mem_cons, List.not_mem_nil, or_false] at hs
    rcases hs with rfl | rfl | rfl | rfl | rfl | rfl | rfl | rfl | rfl
    all_goals
      repeat (lcg_off; first | refine ifT (by decide) ?_ | refine ifF (by decide) ?_)
      lcg_off
      exact ask_opb fh h1 h2 l1 l2 l3 l4 k
def sp_law_marked (a : Ad) (K : PySem.W.Frag) : Sp := fun vs H Q E => ∃ (F : Hp) (s : List Nat) (p1 : Addr) (t1 : List Nat) (r1 : List Row), vs = [.str (tx s), .ref p1] ∧ s ∈ unaries ∧ Same F H ∧ ExprAt a K F p1 t1 r1 ∧
  t1.length ≤ 10000 ∧ r1.length ≤ 1000 ∧ UnPost a K s F H t1 r1 Q E
theorem ok_law_marked (T : Txt K mg a) : FnOk P w K mg base (CX P w) 6 a.f_law_marked a.fd_law_marked ["_law_sign", "_law_one"]  (sp_law_marked a K) := by
  refine T.F_law_marked.okX sc_law_marked (fun vs H Q E h => ?_) (fun cdv A outer s H vs Q E hr h => ?_)
  · obtain ⟨_, _, _, _, _, rfl, _⟩ := h
    rfl
  · obtain ⟨F, sg, p1, t1, r1, rfl, hs, fh, h1, l1, l3, k⟩ := h
    refine ⟨_, ((pss_cons (ps_if (pt_cmpR op_eq (pv 0) pe_str (nomark _))
 (pss_one (ps_ret (pe_un (un_O (own_Expression_neg T (passes_call (takes_of rfl rfl rfl rfl) (fun _ _ _ _ h => h))) (hr.mono (by decide))) (pv 1))))
 pss_nil)
 (pss_cons (ps_if (pt_cmpR op_eq (pv 0) pe_str (nomark _))
 (pss_one (ps_ret (pe_un (un_O (own_Expression_pos T (passes_call (takes_of rfl rfl rfl rfl) (fun _ _ _ _ h => h))) (hr.mono (by decide))) (pv 1))))
 pss_nil)
 (pss_one (ps_ret (pe_ifExp (pt_cmpR op_eq (pv 0) pe_str (nomark _)) (pe_un (un_O (own_Expression_invert T (passes_call (takes_of rfl rfl rfl rfl) (fun _ _ _ _ h => h))) (hr.mono (by decide))) (pv 1)) (pe_callB (call_absO (own_Expression_abs T (passes_call (takes_of rfl rfl rfl rfl) (fun _ _ _ _ h => h))) hr) (by rfl) T.n_abs (by decide +kernel) (pa_cons (pv 1) pa_nil)))))))), ?_⟩
    try simp only [cxK, neg_tx, pos_tx, invert_tx]
    unfold unaries at hs
    simp only [List.mem_cons, List.not_mem_nil, or_false] at hs
    rcases hs with rfl | rfl | rfl | rfl
    all_goals
      repeat (lcg_off; first | refine ifT (by decide) ?_ | refine ifF (by decide) ?_)
      lcg_off
      first
        | exact ask_opu fh h1 l1 l3 k
        | exact ask_abs fh h1 l1 l3 k
theorem leaf_tx : Str.ofString "leaf" = tx [108, 101, 97, 102] := by decide +kernel
theorem asked_tx : Str.ofString "asked" = tx [97, 115, 107, 101, 100] := by decide +kernel
theorem done_tx : Str.ofString "done" = tx [100, 111, 110, 101] := by decide +kernel
theorem drop_row {rows : List Row} {i : Nat} {r : Row} (h : rows[i]? = some r) : rows.drop i = r :: rows.drop (i + 1) := by
  obtain ⟨hi, e⟩ := List.getElem?_eq_some_iff.mp h
  rw [List.drop_eq_getElem_cons hi, e]
theorem erun_cons {st : Stk} {r : Row} {rs : List Row} {fin : Stk} (h : erun st (r :: rs) = some fin) : ∃ st', estep st r = some st' ∧ erun st' rs = some fin := by
  simp only [erun] at h
  cases e : estep st r with
  | none => rw [e] at h; cases h
  | some st' => rw [e] at h; exact ⟨st', rfl, h⟩
theorem one_of {st st' : Stk} {s : List Nat} (h : estep st (.done s 1) = some st') : ∃ st0 x, st = st0 ++ [x] ∧ st' = st0 ++ [(s ++ 40 :: (x.1 ++ [41]), x.2 ++ [.done s 1])] := by
  simp only [estep] at h
  split at h
  · rename_i x e
    cases h
    exact ⟨st.dropLast, x, stk_snoc e, rfl⟩
  · cases h
theorem two_of {st st' : Stk} {s : List Nat} (h : estep st (.done s 2) = some st') : ∃ st0 x y, st = st0 ++ [x] ++ [y] ∧ st' = st0 ++ [(40 :: (x.1 ++ 32 :: (s ++ 32 :: (y.1 ++ [41]))), x.2 ++ y.2 ++ [.done s 2])] := by
  simp only [estep] at h
  split at h
  · rename_i y x e1 e2
    cases h
    refine ⟨st.dropLast.dropLast, x, y, ?_, rfl⟩
    rw [← stk_snoc e2]
    exact stk_snoc e1
  · cases h
theorem slen_snoc (st : Stk) (x : List Nat × List Row) : slen (st ++ [x]) = slen st + x.1.length := by simp [slen]
end
end Ex

namespace Ex
open PySem L2 Hk
local macro_rules | `(tactic| array_mem_dec) => `(tactic| with_reducible first
  | assumption | exact upd_same
  | (apply upd_new; assumption; array_mem_dec)
  | (apply upd_old; tlg_ne; array_mem_dec)
  | (apply same_at; assumption; array_mem_dec))
local macro_rules | `(tactic| tlg_ne) => `(tactic| with_reducible first
  | assumption | (apply Ne.symm; assumption)
  | (apply ne_new; assumption; array_mem_dec) | (apply ne_new'; assumption; array_mem_dec)
  | (apply ne_of; assumption; assumption; (with_unfolding_all (intro z; cases z; done))))
local macro_rules | `(tactic| decreasing_trivial_pre_omega) => `(tactic| with_reducible first
  | assumption | (apply sqL_of; array_mem_dec) | (apply sqT_of; array_mem_dec)
  | (apply Same.seq; assumption; decreasing_trivial_pre_omega) | (apply sqT_same; assumption; decreasing_trivial_pre_omega)
  | (apply sqL_new; assumption; decreasing_trivial_pre_omega) | (apply sqL_upd; tlg_ne; decreasing_trivial_pre_omega))
local macro_rules | `(tactic| kpt_turns) => `(tactic| with_reducible first
  | assumption | exact Same.refl _ | (apply same_ext; kpt_turns; assumption) | (apply same_mut; kpt_turns; keq_hits) | (apply same_step; assumption; kpt_turns))
local macro_rules | `(tactic| keq_hits) => `(tactic| with_reducible first | assumption | (apply same_none; assumption; keq_hits))
local macro_rules | `(tactic| sizeOf_list_dec) => `(tactic| first | (with_reducible assumption) | (with_reducible_and_instances omega) | (with_unfolding_all decide))
local macro_rules | `(tactic| array_get_dec) => `(tactic| first | (with_reducible assumption) | (apply sz_of; (with_unfolding_all simp); done) | (apply sz_of; omega) | (apply sz_lt; (with_unfolding_all simp); done) | (apply sz_lt; omega))
local macro_rules | `(tactic| keq_rows) => `(tactic| with_reducible first
  | apply rd_asgN | apply rd_seq | apply rd_parA | apply rd_par3A | apply rd_par2 | apply rd_par3 | apply rd_m1 | apply rd_isStr | apply rd_cval | apply rd_asg | apply rd_gname | apply rd_op | (show tVar _ _ _ _; refine rd_var (by with_unfolding_all rfl) ?_) | apply rd_c | apply rd_I0
  | apply rd_cons | apply rd_nil | apply rd_cb | apply rd_test | apply rd_bl | apply rd_fld | apply rd_drop | apply rd_ret | apply rd_retN | apply rd_next
  | apply rd_ifS | apply rd_un | apply rd_B | apply rd_and | apply rd_or | apply rd_not | apply rd_andV | apply rd_orV | apply rd_notV | apply rd_if
  | apply rd_int | apply rd_abs | apply rd_max | apply rd_min | apply rd_strS | apply rd_U
  | apply rd_eqTx | apply rd_neTx | apply rd_inTx | apply rd_notInTx | apply rd_fmt | (show FmtK (.str (tx _)) _ _; refine rd_fmtT (by omega) ?_) | apply rd_jsC | apply rd_jsN | (show JsK _ (tx _) _ (.str (tx _)) _ _; refine rd_JsK (by first | omega | (simp; done) | (simp; omega)) ?_) | (show rAddStr (.str (tx _)) (.str (tx _)) _ _; refine rd_addT (by first | omega | (simp; done) | (simp; omega)) ?_) | (show rLenStr [.str (tx _)] _ _; refine rd_lenTx (by omega) ?_)
  | (show rEq _ _ _ _; refine rd_eq (by with_unfolding_all rfl) ?_) | (show rNe _ _ _ _; refine rd_ne (by with_unfolding_all rfl) ?_) | apply rd_isNone | apply rd_notNone
  | (show rIxL _ _ _ _ _; refine rd_ixL (by decreasing_trivial_pre_omega) (by with_unfolding_all rfl) ?_) | (show rIxT _ _ _ _ _; refine rd_ixT (by decreasing_trivial_pre_omega) (by with_unfolding_all rfl) ?_)
  | (show rLenSeq _ _ _ _; refine rd_lenL (by decreasing_trivial_pre_omega) ?_) | (show rLenSeq _ _ _ _; refine rd_lenT (by decreasing_trivial_pre_omega) ?_)
  | (show rI _ _ _ _ _ _; refine rd_mod (by sizeOf_list_dec) ?_) | (show rI _ _ _ _ _ _; refine rd_div (by sizeOf_list_dec) (by sizeOf_list_dec) ?_) | (show rI _ _ _ _ _ _; refine rd_mulR (by sizeOf_list_dec) (by sizeOf_list_dec) ?_) | (show rI _ _ _ _ _ _; refine rd_mulL (by sizeOf_list_dec) (by sizeOf_list_dec) ?_) | (show rI _ _ _ _ _ _; refine rd_pow (by sizeOf_list_dec) ?_)
  | (show rSetL _ _ _ _ _; refine rd_setL (by array_mem_dec) (by with_unfolding_all rfl) ?_)
  | apply rd_inSign | apply rd_notInSign | apply rd_tupK | apply rd_lstK | apply rd_sl | apply rd_noPart | apply rd_part | apply rd_isInt
  | apply rd_gsub | apply rd_gcons | apply rd_gnil | apply rd_call | apply rd_meth | apply rd_make | apply rd_smeth | apply rd_isC | apply rd_smethK | apply rd_cmeth | apply rd_cmethK
  | apply rd_bm | apply rd_bm0 | (show BmK _ _ _ _ _ _ _ _; refine rd_bmL (by array_mem_dec) ?_) | (show Bm0K _ _ _ _ _ _; refine rd_bm0L (by array_mem_dec) ?_) | apply rd_sfld | apply rd_aug | apply rd_rAdd | apply rd_brk | apply rd_cont
  | apply rd_for | apply rd_iList | (show IList _ _ _ _; refine rd_IList (by decreasing_trivial_pre_omega) ?_) | apply rd_iTup | (show ITup _ _ _ _; refine rd_ITup (by decreasing_trivial_pre_omega) ?_) | apply rd_iEnum | (show IEnum _ _ _ _; refine rd_IEnum (by decreasing_trivial_pre_omega) ?_) | apply rd_iRng1 | (show IRng1 _ _ _; refine rd_IRng1 (by sizeOf_list_dec) (by sizeOf_list_dec) ?_)
  | (show rLenStr _ _ _; refine rd_lenS (by array_get_dec) ?_) | (show rAddStr _ _ _ _; refine rd_addS (by array_get_dec) ?_) | (show rSlS _ _ _ _ _; refine rd_slS (by array_get_dec) ?_) | apply rd_lc | apply rd_yes | (show gTup _ _ _ _ _ _ _; refine rd_gtup (by decreasing_trivial_pre_omega) (by with_unfolding_all rfl) ?_) | (show tMakeL _ _ _ _ _ _ _ _; refine rd_makeL (by with_unfolding_all rfl) ?_))
local macro_rules | `(tactic| kas_types) => `(tactic| with_reducible first | apply rd_isi_int_int | apply rd_isi_int_bool | apply rd_isi_int_str | apply rd_isi_int_list | apply rd_isi_int_tuple | apply rd_isi_bool_int | apply rd_isi_bool_bool | apply rd_isi_bool_str | apply rd_isi_bool_list | apply rd_isi_bool_tuple | apply rd_isi_str_int | apply rd_isi_str_bool | apply rd_isi_str_str | apply rd_isi_str_list | apply rd_isi_str_tuple | (show rIsi _ _ _ _; refine rd_isi_list_int (by array_mem_dec) ?_) | (show rIsi _ _ _ _; refine rd_isi_list_bool (by array_mem_dec) ?_) | (show rIsi _ _ _ _; refine rd_isi_list_str (by array_mem_dec) ?_) | (show rIsi _ _ _ _; refine rd_isi_list_list (by array_mem_dec) ?_) | (show rIsi _ _ _ _; refine rd_isi_list_tuple (by array_mem_dec) ?_) | (show rIsi _ _ _ _; refine rd_isi_tuple_int (by array_mem_dec) ?_) | (show rIsi _ _ _ _; refine rd_isi_tuple_bool (by array_mem_dec) ?_) | (show rIsi _ _ _ _; refine rd_isi_tuple_str (by array_mem_dec) ?_) | (show rIsi _ _ _ _; refine rd_isi_tuple_list (by array_mem_dec) ?_) | (show rIsi _ _ _ _; refine rd_isi_tuple_tuple (by array_mem_dec) ?_) | apply rd_isi_NoneType_int | apply rd_isi_NoneType_bool | apply rd_isi_NoneType_str | apply rd_isi_NoneType_list | apply rd_isi_NoneType_tuple)
local macro_rules | `(tactic| lcg_src) => `(tactic| repeat keq_rows)

local macro_rules | `(tactic| lcg_off) => `(tactic| repeat keq_rows)
theorem flat_snoc (st : Stk) (x : List Nat × List Row) : flat (st ++ [x]) = flat st ++ x.2 := by simp [flat]
section
variable {P : Program} {w : World} {K : PySem.W.Frag} {mg : Str → Option Value} {base : Heap} {a : Ad}
end
end Ex

namespace Ex
open PySem L2 Hk
local macro_rules | `(tactic| array_mem_dec) => `(tactic| with_reducible first
  | assumption | exact upd_same
  | (apply upd_new; assumption; array_mem_dec)
  | (apply upd_old; tlg_ne; array_mem_dec)
  | (apply same_at; assumption; array_mem_dec))
local macro_rules | `(tactic| tlg_ne) => `(tactic| with_reducible first
  | assumption | (apply Ne.symm; assumption)
  | (apply ne_new; assumption; array_mem_dec) | (apply ne_new'; assumption; array_mem_dec)
  | (apply ne_of; assumption; assumption; (with_unfolding_all (intro z; cases z; done))))
local macro_rules | `(tactic| decreasing_trivial_pre_omega) => `(tactic| with_reducible first
  | assumption | (apply sqL_of; array_mem_dec) | (apply sqT_of; array_mem_dec)
  | (apply Same.seq; assumption; decreasing_trivial_pre_omega) | (apply sqT_same; assumption; decreasing_trivial_pre_omega)
  | (apply sqL_new; assumption; decreasing_trivial_pre_omega) | (apply sqL_upd; tlg_ne; decreasing_trivial_pre_omega))
local macro_rules | `(tactic| kpt_turns) => `(tactic| with_reducible first
  | assumption | exact Same.refl _ | (apply same_ext; kpt_turns; assumption) | (apply same_mut; kpt_turns; keq_hits) | (apply same_step; assumption; kpt_turns))
local macro_rules | `(tactic| keq_hits) => `(tactic| with_reducible first | assumption | (apply same_none; assumption; keq_hits))
local macro_rules | `(tactic| sizeOf_list_dec) => `(tactic| first | (with_reducible assumption) | (with_reducible_and_instances omega) | (with_unfolding_all decide))
local macro_rules | `(tactic| array_get_dec) => `(tactic| first | (with_reducible assumption) | (apply sz_of; (with_unfolding_all simp); done) | (apply sz_of; omega) | (apply sz_lt; (with_unfolding_all simp); done) | (apply sz_lt; omega))
local macro_rules | `(tactic| keq_rows) => `(tactic| with_reducible first
  | apply rd_asgN | apply rd_seq | apply rd_parA | apply rd_par3A | apply rd_par2 | apply rd_par3 | apply rd_m1 | apply rd_isStr | apply rd_cval | apply rd_asg | apply rd_gname | apply rd_op | (show tVar _ _ _ _; refine rd_var (by with_unfolding_all rfl) ?_) | apply rd_c | apply rd_I0
  | apply rd_cons | apply rd_nil | apply rd_cb | apply rd_test | apply rd_bl | apply rd_fld | apply rd_drop | apply rd_ret | apply rd_retN | apply rd_next
  | apply rd_ifS | apply rd_un | apply rd_B | apply rd_and | apply rd_or | apply rd_not | apply rd_andV | apply rd_orV | apply rd_notV | apply rd_if
  | apply rd_int | apply rd_abs | apply rd_max | apply rd_min | apply rd_strS | apply rd_U
  | apply rd_eqTx | apply rd_neTx | apply rd_inTx | apply rd_notInTx | apply rd_fmt | (show FmtK (.str (tx _)) _ _; refine rd_fmtT (by omega) ?_) | apply rd_jsC | apply rd_jsN | (show JsK _ (tx _) _ (.str (tx _)) _ _; refine rd_JsK (by first | omega | (simp; done) | (simp; omega)) ?_) | (show rAddStr (.str (tx _)) (.str (tx _)) _ _; refine rd_addT (by first | omega | (simp; done) | (simp; omega)) ?_) | (show rLenStr [.str (tx _)] _ _; refine rd_lenTx (by omega) ?_)
  | (show rEq _ _ _ _; refine rd_eq (by with_unfolding_all rfl) ?_) | (show rNe _ _ _ _; refine rd_ne (by with_unfolding_all rfl) ?_) | apply rd_isNone | apply rd_notNone
  | (show rIxL _ _ _ _ _; refine rd_ixL (by decreasing_trivial_pre_omega) (by with_unfolding_all rfl) ?_) | (show rIxT _ _ _ _ _; refine rd_ixT (by decreasing_trivial_pre_omega) (by with_unfolding_all rfl) ?_)
  | (show rLenSeq _ _ _ _; refine rd_lenL (by decreasing_trivial_pre_omega) ?_) | (show rLenSeq _ _ _ _; refine rd_lenT (by decreasing_trivial_pre_omega) ?_)
  | (show rI _ _ _ _ _ _; refine rd_mod (by sizeOf_list_dec) ?_) | (show rI _ _ _ _ _ _; refine rd_div (by sizeOf_list_dec) (by sizeOf_list_dec) ?_) | (show rI _ _ _ _ _ _; refine rd_mulR (by sizeOf_list_dec) (by sizeOf_list_dec) ?_) | (show rI _ _ _ _ _ _; refine rd_mulL (by sizeOf_list_dec) (by sizeOf_list_dec) ?_) | (show rI _ _ _ _ _ _; refine rd_pow (by sizeOf_list_dec) ?_)
  | (show rSetL _ _ _ _ _; refine rd_setL (by array_mem_dec) (by with_unfolding_all rfl) ?_)
  | apply rd_inSign | apply rd_notInSign | apply rd_tupK | apply rd_lstK | apply rd_sl | apply rd_noPart | apply rd_part | apply rd_isInt
  | apply rd_gsub | apply rd_gcons | apply rd_gnil | apply rd_call | apply rd_meth | apply rd_make | apply rd_smeth | apply rd_isC | apply rd_smethK | apply rd_cmeth | apply rd_cmethK
  | apply rd_bm | apply rd_bm0 | (show BmK _ _ _ _ _ _ _ _; refine rd_bmL (by array_mem_dec) ?_) | (show Bm0K _ _ _ _ _ _; refine rd_bm0L (by array_mem_dec) ?_) | apply rd_sfld | apply rd_aug | apply rd_rAdd | apply rd_brk | apply rd_cont
  | apply rd_for | apply rd_iList | (show IList _ _ _ _; refine rd_IList (by decreasing_trivial_pre_omega) ?_) | apply rd_iTup | (show ITup _ _ _ _; refine rd_ITup (by decreasing_trivial_pre_omega) ?_) | apply rd_iEnum | (show IEnum _ _ _ _; refine rd_IEnum (by decreasing_trivial_pre_omega) ?_) | apply rd_iRng1 | (show IRng1 _ _ _; refine rd_IRng1 (by sizeOf_list_dec) (by sizeOf_list_dec) ?_)
  | (show rLenStr _ _ _; refine rd_lenS (by array_get_dec) ?_) | (show rAddStr _ _ _ _; refine rd_addS (by array_get_dec) ?_) | (show rSlS _ _ _ _ _; refine rd_slS (by array_get_dec) ?_) | apply rd_lc | apply rd_yes | (show gTup _ _ _ _ _ _ _; refine rd_gtup (by decreasing_trivial_pre_omega) (by with_unfolding_all rfl) ?_) | (show tMakeL _ _ _ _ _ _ _ _; refine rd_makeL (by with_unfolding_all rfl) ?_))
local macro_rules | `(tactic| kas_types) => `(tactic| with_reducible first | apply rd_isi_int_int | apply rd_isi_int_bool | apply rd_isi_int_str | apply rd_isi_int_list | apply rd_isi_int_tuple | apply rd_isi_bool_int | apply rd_isi_bool_bool | apply rd_isi_bool_str | apply rd_isi_bool_list | apply rd_isi_bool_tuple | apply rd_isi_str_int | apply rd_isi_str_bool | apply rd_isi_str_str | apply rd_isi_str_list | apply rd_isi_str_tuple | (show rIsi _ _ _ _; refine rd_isi_list_int (by array_mem_dec) ?_) | (show rIsi _ _ _ _; refine rd_isi_list_bool (by array_mem_dec) ?_) | (show rIsi _ _ _ _; refine rd_isi_list_str (by array_mem_dec) ?_) | (show rIsi _ _ _ _; refine rd_isi_list_list (by array_mem_dec) ?_) | (show rIsi _ _ _ _; refine rd_isi_list_tuple (by array_mem_dec) ?_) | (show rIsi _ _ _ _; refine rd_isi_tuple_int (by array_mem_dec) ?_) | (show rIsi _ _ _ _; refine rd_isi_tuple_bool (by array_mem_dec) ?_) | (show rIsi _ _ _ _; refine rd_isi_tuple_str (by array_mem_dec) ?_) | (show rIsi _ _ _ _; refine rd_isi_tuple_list (by array_mem_dec) ?_) | (show rIsi _ _ _ _; refine rd_isi_tuple_tuple (by array_mem_dec) ?_) | apply rd_isi_NoneType_int | apply rd_isi_NoneType_bool | apply rd_isi_NoneType_str | apply rd_isi_NoneType_list | apply rd_isi_NoneType_tuple)
local macro_rules | `(tactic| lcg_src) => `(tactic| repeat keq_rows)

local macro_rules | `(tactic| lcg_off) => `(tactic| repeat keq_rows)
/-! ### an expression, asked -/
section
variable {K : PySem.W.Frag} {a : Ad} {F H : Hp} {p p2 : Addr} {t t2 : List Nat} {rows rows2 : List Row} {Q : VK} {E : XK} {X : Cx}
theorem ask_str (fh : Same F H) (he : ExprAt a K F p t rows) (q : Q (.str (tx t)) H) : rStrO a.C_Expression (sp_Expression_str a K) E [.ref p] H Q := by
  obtain ⟨dx, l, xs, hp, _, _⟩ := he.ex
  exact ⟨p, dx, _, rfl, fh _ _ hp, F, p, t, rows, rfl, fh, he, _, rfl, q⟩
theorem ask_len (fh : Same F H) (he : ExprAt a K F p t rows) (hl : rows.length ≤ 10000) (q : ∀ F' H', Grow [] F H F' H' → Q (.int (nSteps rows : Nat)) H') : rLenO a.C_Expression (sp_Expression_len a K) E [.ref p] H Q := by
  obtain ⟨dx, l, xs, hp, _, _⟩ := he.ex
  have := nSteps_le rows
  refine ⟨p, dx, _, rfl, fh _ _ hp, F, p, t, rows, rfl, fh, he, hl, fun F' H' v g e => ?_⟩
  subst e
  exact ⟨_, rfl, ⟨by omega, by omega⟩, q F' H' g⟩
theorem ask_eq (fh : Same F H) (h1 : ExprAt a K F p t rows) (h2 : ExprAt a K F p2 t2 rows2) (q : Q (.bl (decide (t = t2))) H) : rEqO X a.C_Expression (sp_Expression_eq a K) E (.ref p) (.ref p2) H Q := by
  obtain ⟨dx, l, xs, hp, _, _⟩ := h1.ex
  obtain ⟨dx2, l2, xs2, hp2, _, _⟩ := h2.ex
  exact ⟨p, dx, _, rfl, fh _ _ hp, .inl ⟨p2, dx2, _, rfl, fh _ _ hp2⟩, F, p, .ref p2, t, rows, rfl, fh, h1, .inl ⟨p2, t2, rows2, rfl, h2, _, rfl, q⟩⟩
theorem ask_ne (fh : Same F H) (h1 : ExprAt a K F p t rows) (h2 : ExprAt a K F p2 t2 rows2) (q : Q (.bl (!decide (t = t2))) H) : rNeO X a.C_Expression (sp_Expression_eq a K) E (.ref p) (.ref p2) H Q := by
  obtain ⟨dx, l, xs, hp, _, _⟩ := h1.ex
  obtain ⟨dx2, l2, xs2, hp2, _, _⟩ := h2.ex
  exact ⟨p, dx, _, rfl, fh _ _ hp, .inl ⟨p2, dx2, _, rfl, fh _ _ hp2⟩, F, p, .ref p2, t, rows, rfl, fh, h1, .inl ⟨p2, t2, rows2, rfl, h2, _, rfl, q⟩⟩
theorem methE {m : Str} {sp : Sp} {tt : TA} {σ : L2.St} (fh : Same F H) (h1 : ExprAt a K F p t rows) (e1 : (m == ("text" : Str)) = false) (e2 : (m == ("program" : Str)) = false) (q : tt σ H fun vs H2 => sp (.ref p :: (vs ++ [])) H2 Q E) : MethK a.C_Expression m sp E tt σ (.ref p) H Q := by
  obtain ⟨dx, l, xs, hp, _, _⟩ := h1.ex
  exact rd_methK (fh _ _ hp) (fE_no e1 e2) q
end
end Ex

namespace Ex
open PySem L2 Hk
local macro_rules | `(tactic| array_mem_dec) => `(tactic| with_reducible first
  | assumption | exact upd_same
  | (apply upd_new; assumption; array_mem_dec)
  | (apply upd_old; tlg_ne; array_mem_dec)
  | (apply same_at; assumption; array_mem_dec))
local macro_rules | `(tactic| tlg_ne) => `(tactic| with_reducible first
  | assumption | (apply Ne.symm; assumption)
  | (apply ne_new; assumption; array_mem_dec) | (apply ne_new'; assumption; array_mem_dec)
  | (apply ne_of; assumption; assumption; (with_unfolding_all (intro z; cases z; done))))
local macro_rules | `(tactic| decreasing_trivial_pre_omega) => `(tactic| with_reducible first
  | assumption | (apply sqL_of; array_mem_dec) | (apply sqT_of; array_mem_dec)
  | (apply Same.seq; assumption; decreasing_trivial_pre_omega) | (apply sqT_same; assumption; decreasing_trivial_pre_omega)
  | (apply sqL_new; assumption; decreasing_trivial_pre_omega) | (apply sqL_upd; tlg_ne; decreasing_trivial_pre_omega))
local macro_rules | `(tactic| kpt_turns) => `(tactic| with_reducible first
  | assumption | exact Same.refl _ | (apply same_ext; kpt_turns; assumption) | (apply same_mut; kpt_turns; keq_hits) | (apply same_step; assumption; kpt_turns))
local macro_rules | `(tactic| keq_hits) => `(tactic| with_reducible first | assumption | (apply same_none; assumption; keq_hits))
local macro_rules | `(tactic| sizeOf_list_dec) => `(tactic| first | (with_reducible assumption) | (with_reducible_and_instances omega) | (with_unfolding_all decide))
local macro_rules | `(tactic| array_get_dec) => `(tactic| first | (with_reducible assumption) | (apply sz_of; (with_unfolding_all simp); done) | (apply sz_of; omega) | (apply sz_lt; (with_unfolding_all simp); done) | (apply sz_lt; omega))
local macro_rules | `(tactic| keq_rows) => `(tactic| with_reducible first
  | apply rd_asgN | apply rd_seq | apply rd_parA | apply rd_par3A | apply rd_par2 | apply rd_par3 | apply rd_m1 | apply rd_isStr | apply rd_cval | apply rd_asg | apply rd_gname | apply rd_op | (show tVar _ _ _ _; refine rd_var (by with_unfolding_all rfl) ?_) | apply rd_c | apply rd_I0
  | apply rd_cons | apply rd_nil | apply rd_cb | apply rd_test | apply rd_bl | apply rd_fld | apply rd_drop | apply rd_ret | apply rd_retN | apply rd_next
  | apply rd_ifS | apply rd_un | apply rd_B | apply rd_and | apply rd_or | apply rd_not | apply rd_andV | apply rd_orV | apply rd_notV | apply rd_if
  | apply rd_int | apply rd_abs | apply rd_max | apply rd_min | apply rd_strS | apply rd_U
  | apply rd_eqTx | apply rd_neTx | apply rd_inTx | apply rd_notInTx | apply rd_fmt | (show FmtK (.str (tx _)) _ _; refine rd_fmtT (by omega) ?_) | apply rd_jsC | apply rd_jsN | (show JsK _ (tx _) _ (.str (tx _)) _ _; refine rd_JsK (by first | omega | (simp; done) | (simp; omega)) ?_) | (show rAddStr (.str (tx _)) (.str (tx _)) _ _; refine rd_addT (by first | omega | (simp; done) | (simp; omega)) ?_) | (show rLenStr [.str (tx _)] _ _; refine rd_lenTx (by omega) ?_)
  | (show rEq _ _ _ _; refine rd_eq (by with_unfolding_all rfl) ?_) | (show rNe _ _ _ _; refine rd_ne (by with_unfolding_all rfl) ?_) | apply rd_isNone | apply rd_notNone
  | (show rIxL _ _ _ _ _; refine rd_ixL (by decreasing_trivial_pre_omega) (by with_unfolding_all rfl) ?_) | (show rIxT _ _ _ _ _; refine rd_ixT (by decreasing_trivial_pre_omega) (by with_unfolding_all rfl) ?_)
  | (show rLenSeq _ _ _ _; refine rd_lenL (by decreasing_trivial_pre_omega) ?_) | (show rLenSeq _ _ _ _; refine rd_lenT (by decreasing_trivial_pre_omega) ?_)
  | (show rI _ _ _ _ _ _; refine rd_mod (by sizeOf_list_dec) ?_) | (show rI _ _ _ _ _ _; refine rd_div (by sizeOf_list_dec) (by sizeOf_list_dec) ?_) | (show rI _ _ _ _ _ _; refine rd_mulR (by sizeOf_list_dec) (by sizeOf_list_dec) ?_) | (show rI _ _ _ _ _ _; refine rd_mulL (by sizeOf_list_dec) (by sizeOf_list_dec) ?_) | (show rI _ _ _ _ _ _; refine rd_pow (by sizeOf_list_dec) ?_)
  | (show rSetL _ _ _ _ _; refine rd_setL (by array_mem_dec) (by with_unfolding_all rfl) ?_)
  | apply rd_inSign | apply rd_notInSign | apply rd_tupK | apply rd_lstK | apply rd_sl | apply rd_noPart | apply rd_part | apply rd_isInt
  | apply rd_gsub | apply rd_gcons | apply rd_gnil | apply rd_call | apply rd_meth | apply rd_make | apply rd_smeth | apply rd_isC | apply rd_smethK | apply rd_cmeth | apply rd_cmethK
  | apply rd_bm | apply rd_bm0 | (show BmK _ _ _ _ _ _ _ _; refine rd_bmL (by array_mem_dec) ?_) | (show Bm0K _ _ _ _ _ _; refine rd_bm0L (by array_mem_dec) ?_) | apply rd_sfld | apply rd_aug | apply rd_rAdd | apply rd_brk | apply rd_cont
  | apply rd_for | apply rd_iList | (show IList _ _ _ _; refine rd_IList (by decreasing_trivial_pre_omega) ?_) | apply rd_iTup | (show ITup _ _ _ _; refine rd_ITup (by decreasing_trivial_pre_omega) ?_) | apply rd_iEnum | (show IEnum _ _ _ _; refine rd_IEnum (by decreasing_trivial_pre_omega) ?_) | apply rd_iRng1 | (show IRng1 _ _ _; refine rd_IRng1 (by sizeOf_list_dec) (by sizeOf_list_dec) ?_)
  | (show rLenStr _ _ _; refine rd_lenS (by array_get_dec) ?_) | (show rAddStr _ _ _ _; refine rd_addS (by array_get_dec) ?_) | (show rSlS _ _ _ _ _; refine rd_slS (by array_get_dec) ?_) | apply rd_lc | apply rd_yes | (show gTup _ _ _ _ _ _ _; refine rd_gtup (by decreasing_trivial_pre_omega) (by with_unfolding_all rfl) ?_) | (show tMakeL _ _ _ _ _ _ _ _; refine rd_makeL (by with_unfolding_all rfl) ?_))
local macro_rules | `(tactic| kas_types) => `(tactic| with_reducible first | apply rd_isi_int_int | apply rd_isi_int_bool | apply rd_isi_int_str | apply rd_isi_int_list | apply rd_isi_int_tuple | apply rd_isi_bool_int | apply rd_isi_bool_bool | apply rd_isi_bool_str | apply rd_isi_bool_list | apply rd_isi_bool_tuple | apply rd_isi_str_int | apply rd_isi_str_bool | apply rd_isi_str_str | apply rd_isi_str_list | apply rd_isi_str_tuple | (show rIsi _ _ _ _; refine rd_isi_list_int (by array_mem_dec) ?_) | (show rIsi _ _ _ _; refine rd_isi_list_bool (by array_mem_dec) ?_) | (show rIsi _ _ _ _; refine rd_isi_list_str (by array_mem_dec) ?_) | (show rIsi _ _ _ _; refine rd_isi_list_list (by array_mem_dec) ?_) | (show rIsi _ _ _ _; refine rd_isi_list_tuple (by array_mem_dec) ?_) | (show rIsi _ _ _ _; refine rd_isi_tuple_int (by array_mem_dec) ?_) | (show rIsi _ _ _ _; refine rd_isi_tuple_bool (by array_mem_dec) ?_) | (show rIsi _ _ _ _; refine rd_isi_tuple_str (by array_mem_dec) ?_) | (show rIsi _ _ _ _; refine rd_isi_tuple_list (by array_mem_dec) ?_) | (show rIsi _ _ _ _; refine rd_isi_tuple_tuple (by array_mem_dec) ?_) | apply rd_isi_NoneType_int | apply rd_isi_NoneType_bool | apply rd_isi_NoneType_str | apply rd_isi_NoneType_list | apply rd_isi_NoneType_tuple)
local macro_rules | `(tactic| lcg_src) => `(tactic| repeat keq_rows)

local macro_rules | `(tactic| lcg_off) => `(tactic| repeat keq_rows)
theorem Grow.ofSame {F H H1 : Hp} (fh : Same F H) (s : Same H H1) : Grow [] F H F H1 :=
  ⟨Same.refl _, fh.trans s, fun c o _ e => s _ _ e, fun c x y => ⟨x, same_nn s y⟩⟩
theorem kit_own {K : PySem.W.Frag} {C D : Addr} {b : Bool} (hd : PySem.W.hasDictIn K D = true) (ty : PySem.W.typeIn K (.ref D) = some (.type "type")) (hs : PySem.W.subIn K (.ref C) (.ref D) = some b) (self : PySem.W.subIn K (.ref C) (.ref C) = some true) : PySem.W.kitOne K (.ref C) (.ref D) = some b := by
  obtain ⟨cd, hcd, _⟩ := PySem.W.any_some hd
  unfold PySem.W.kitOne
  by_cases e : C = D
  · subst e
    rw [self] at hs
    cases hs
    simp
  · have e2 : (Value.ref C == Value.ref D) = false := Bool.eq_false_iff.mpr fun q => e (Value.ref.inj (beq_iff_eq.mp q))
    rw [e2, if_neg Bool.false_ne_true]
    unfold PySem.W.kitCls
    simp only [hcd, ty, Option.isSome_some, beq_self_eq_true, Bool.and_self, if_true]
    exact hs
section
variable {K : PySem.W.Frag} {mg : Str → Option Value} {a : Ad}
theorem Txt.ex_tt (T : Txt K mg a) : PySem.W.exmOne K (.ref a.C_TooMany) (.ref a.C_TooMany) = some true := PySem.W.exm_ref T.sb_TooMany T.xf_TooMany.hdC T.ty_TooMany T.su_tt
theorem Txt.ex_th (T : Txt K mg a) : PySem.W.exmOne K (.ref a.C_TooMany) (.ref a.C_HeirsbackError) = some true := PySem.W.exm_ref T.sb_HeirsbackError T.xhd_hb T.ty_HeirsbackError T.su_th
theorem Txt.ki_hb (T : Txt K mg a) : PySem.W.kitOne K (.ref a.C_TooMany) (.ref a.C_HeirsbackError) = some true := kit_own T.xhd_hb T.ty_HeirsbackError T.su_th T.su_tt
theorem Txt.ki_tm (T : Txt K mg a) : PySem.W.kitOne K (.ref a.C_TooMany) (.ref a.C_TooMany) = some true := kit_own T.xhd_tm T.ty_TooMany T.su_tt T.su_tt
end
section
variable {P : Program} {w : World} {K : PySem.W.Frag} {mg : Str → Option Value} {base : Heap} {a : Ad}
def RepPost (a : Ad) (K : PySem.W.Frag) (s : List Nat) (F H : Hp) (t : Tree) (n : Nat) (Q : VK) (E : XK) : Prop :=
  (n * (nSteps t.rows + 1) ≤ 101 ∨ n = 1 → Post F H Q (IsE a K (rep s t (n - 1)).text (rep s t (n - 1)).rows)) ∧ (101 < n * (nSteps t.rows + 1) → n ≠ 1 → Err a.C_TooMany "what" (.str "steps") H E)
theorem err_go {C : Addr} {f : Str} {v : V} {F H F1 H1 : Hp} {E : XK} (h : Err C f v H E) (g : Grow [] F H F1 H1) : Err C f v H1 E :=
  fun d H' s n e => h d H' (g.same.trans s) (g.same.free n) e
def sp_repeated (a : Ad) (K : PySem.W.Frag) : Sp := fun vs H Q E => ∃ (F : Hp) (s : List Nat) (p : Addr) (t : Tree) (n : Nat), vs = [.str (tx s), .ref p, .int (n : Nat)] ∧ s ∈ binaries ∧ Same F H ∧ ExprAt a K F p t.text t.rows ∧ t.ok ∧ 1 ≤ n ∧ n ≤ 1000 ∧
  n * (t.text.length + 10) ≤ 10000 ∧ t.rows.length ≤ 500 ∧ RepPost a K s F H t n Q E
theorem ok_repeated (T : Txt K mg a) : FnOk P w K mg base (CX P w) 4 a.f_repeated a.fd_repeated ["sign", "one", "many"]  (sp_repeated a K) := by
  refine T.F_repeated.okX sc_repeated (fun vs H Q E h => ?_) (fun cdv A outer s H vs Q E hr h => ?_)
  · obtain ⟨_, _, _, _, _, rfl, _⟩ := h
    rfl
  · obtain ⟨F, sg, p, t, n, rfl, hs, fh, hE, hok, hn1, hn, hb1, hb2, k1, k2⟩ := h
    have hsl := bin_len sg hs
    refine ⟨_, ((pss_cons (ps_set (i := 3) sc_repeated.nd rfl (Or.inl rfl) (pv 1))
 (pss_cons (ps_for (passes_of rfl) rfl (pi_range1 rfl T.n_range (pa_cons (pe_op op_sub (pv 2) pe_int) pa_nil)) (pg_name (i := 4) sc_repeated.nd rfl (Or.inl rfl))
 (pss_one (ps_set (i := 3) sc_repeated.nd rfl (Or.inl rfl) (pe_call (ok_binary T) hr rfl T.g_binary T.F_binary.kp T.b_binary .nil (passes_call (takes_of rfl rfl rfl rfl) (fun _ _ _ _ h => h)) (pa_cons (pv 0) (pa_cons (pv 3) (pa_cons (pv 1) pa_nil)))))))
 (pss_one (ps_ret (pv 3)))))), ?_⟩
    try simp only [cxK]
    have htl : t.text.length ≤ 10000 := by
      have : 1 * (t.text.length + 10) ≤ n * (t.text.length + 10) := Nat.mul_le_mul_right _ hn1
      omega
    lcg_off
    refine fk_range (fun i σ H' => ∃ (F' : Hp) (q : Addr) (u : Option V), σ = [some (.str (tx sg)), some (.ref p), some (.int (n : Nat)), some (.ref q), u] ∧ Grow [] F H F' H' ∧ ExprAt a K F' q (rep sg t i).text (rep sg t i).rows ∧ ((i + 1) * (nSteps t.rows + 1) ≤ 101 ∨ i = 0))
      ⟨F, p, _, rfl, Grow.refl fh, hE, .inr rfl⟩ ?_ ?_
    · rintro i σ H1 hi ⟨F1, q, u, rfl, g1, hq, hc⟩
      have hi2 : i + 2 ≤ n := by omega
      have e0 := rep_steps sg t i
      have e1 : (i + 2) * (nSteps t.rows + 1) = (i + 1) * nSteps t.rows + nSteps t.rows + (i + 2) := by
        rw [Nat.mul_add, Nat.mul_one, Nat.add_mul i 2, Nat.add_mul i 1]; omega
      have e2 := (rep sg t i).rows_steps
      have e1' : (i + 1) * (nSteps t.rows + 1) = (i + 1) * nSteps t.rows + (i + 1) := by rw [Nat.mul_add, Nat.mul_one]
      have e7 : (rep sg t i).rows.length ≤ 1000 := by
        rcases hc with hc | hc
        · omega
        · subst hc
          show t.rows.length ≤ 1000
          omega
      have e3 := repT_len sg t.text i
      rw [← rep_text] at e3
      have hm := Nat.mul_le_mul_right (nSteps t.rows + 1) hi2
      have hm3 : (i + 1) * (t.text.length + 10) ≤ n * (t.text.length + 10) := Nat.mul_le_mul_right _ (by omega)
      have e5 : (i + 1) * (t.text.length + 10) = (i + 1) * t.text.length + (i + 1) * 10 := by rw [Nat.mul_add]
      have e6 : i * (sg.length + 4) ≤ (i + 1) * 10 := Nat.mul_le_mul (by omega) (by omega)
      lcg_off
      refine ⟨F1, sg, q, p, _, _, _, _, rfl, g1.fh, hq, hE.mono g1.ff, by omega, by omega, htl, by omega, by omega, fun hc1 F2 H2 v g2 ⟨p2, ev, he⟩ => ?_, fun hc1 => ?_⟩
      · subst ev
        lcg_off
        exact ⟨F2, p2, _, rfl, g1.trans g2, he, .inl (by show (i + 2) * _ ≤ 101; omega)⟩
      · exact err_go (k2 (by omega) (by omega)) g1
    · rintro σ H1 ⟨F1, q, u, rfl, g1, hq, hc⟩
      have en : ((n : Int) - 1).toNat = n - 1 := by omega
      rw [en] at hq hc
      lcg_off
      refine k1 ?_ F1 H1 _ g1 ⟨q, rfl, hq⟩
      rcases hc with hc | hc
      · rw [show n - 1 + 1 = n by omega] at hc
        exact .inl hc
      · exact .inr (by omega)
def sp_many (a : Ad) (K : PySem.W.Frag) (s : List Nat) : Sp := fun vs H Q E => ∃ (F : Hp) (p : Addr) (t : Tree) (n : Nat), vs = [.ref p, .int (n : Nat)] ∧ Same F H ∧ ExprAt a K F p t.text t.rows ∧ t.ok ∧ 1 ≤ n ∧ n ≤ 1000 ∧
  n * (t.text.length + 10) ≤ 10000 ∧ t.rows.length ≤ 500 ∧ RepPost a K s F H t n Q E
theorem ok_Expression_rmul (T : Txt K mg a) : FnOk P w K mg base (CX P w) 5 a.f_Expression_rmul a.fd_Expression_rmul ["self", "other"]  (sp_many a K [43]) := by
  refine T.F_Expression_rmul.okX sc_Expression_rmul (fun vs H Q E h => ?_) (fun cdv A outer s H vs Q E hr h => ?_)
  · obtain ⟨_, _, _, _, rfl, _⟩ := h
    rfl
  · obtain ⟨F, p, t, n, rfl, h⟩ := h
    refine ⟨_, ((pss_one (ps_ret (pe_call (ok_repeated T) hr rfl T.g_repeated T.F_repeated.kp T.b_repeated .nil (passes_call (takes_of rfl rfl rfl rfl) (fun _ _ _ _ h => h)) (pa_cons pe_str (pa_cons (pv 0) (pa_cons (pv 1) pa_nil))))))), ?_⟩
    try simp only [cxK, add_tx]
    lcg_off
    exact ⟨F, [43], p, t, n, rfl, by decide, h⟩
theorem ok_Expression_pow (T : Txt K mg a) : FnOk P w K mg base (CX P w) 5 a.f_Expression_pow a.fd_Expression_pow ["self", "other"]  (sp_many a K [42]) := by
  refine T.F_Expression_pow.okX sc_Expression_pow (fun vs H Q E h => ?_) (fun cdv A outer s H vs Q E hr h => ?_)
  · obtain ⟨_, _, _, _, rfl, _⟩ := h
    rfl
  · obtain ⟨F, p, t, n, rfl, h⟩ := h
    refine ⟨_, ((pss_one (ps_ret (pe_call (ok_repeated T) hr rfl T.g_repeated T.F_repeated.kp T.b_repeated .nil (passes_call (takes_of rfl rfl rfl rfl) (fun _ _ _ _ h => h)) (pa_cons pe_str (pa_cons (pv 0) (pa_cons (pv 1) pa_nil))))))), ?_⟩
    try simp only [cxK, mul_tx]
    lcg_off
    exact ⟨F, [42], p, t, n, rfl, by decide, h⟩
end
section
variable {X : Cx} {a : Ad} {E : XK}
theorem own_Expression_pow (T : Txt X.K X.mg a) (hx : Passes (CX X.prog X.w) X E) : Own X a.C_Expression "__pow__" 5 (sp_many a X.K [42]) E := ⟨_, _, _, CX X.prog X.w, ok_Expression_pow T, T.m_Expression_pow.at_, T.m_Expression_pow.fn, T.b_Expression_pow, hx⟩
theorem ownS_Expression_rmul {K : PySem.W.Frag} {mg : Str → Option Value} {E : L2.St → XK} (T : Txt K mg a) (hx : ∀ σ, PassesAt (CX X.prog X.w) X σ (E σ)) (hK : X.K = K := by rfl) (hm : X.mg = mg := by rfl) : OwnS X a.C_Expression (dunderR "mul") 5 (sp_many a K [43]) E := by
  subst hK hm
  exact ⟨_, _, _, CX X.prog X.w, ok_Expression_rmul T, T.m_Expression_rmul.at_, T.m_Expression_rmul.fn, T.b_Expression_rmul, hx⟩
theorem ownQ_Expression_str (T : Txt X.K X.mg a) : OwnQ X a.C_Expression "__str__" 1 (sp_Expression_str a X.K) := by
  refine ⟨_, _, _, fnq_of T.F_Expression_str sc_Expression_str (fun vs H Q E h => ?_) (fun cdv A outer s H vs Q E p h => ?_), T.m_Expression_str.at_, T.m_Expression_str.fn, T.b_Expression_str⟩
  · obtain ⟨_, _, _, _, rfl, _⟩ := h
    rfl
  · obtain ⟨F, p, t, rows, rfl, fh, he, k⟩ := h
    obtain ⟨dx, l, xs, hp, _, _⟩ := he.ex
    refine ⟨_, ((pss_one (ps_ret (pe_callTy call_strS (by rfl) T.n_str (by decide +kernel) (pa_cons (pe_fld (pv 0) rfl) pa_nil))))), ?_⟩
    lcg_off
    refine fldE_text T (fh _ _ hp) ?_
    lcg_off
    exact k
end
section
variable {K : PySem.W.Frag} {a : Ad} {F H : Hp} {p : Addr} {t : Tree} {n : Nat} {s : List Nat} {Q : VK} {E : XK}
/-- n * o, o ** n -/
theorem ask_rmul (fh : Same F H) (h : ExprAt a K F p t.text t.rows) (ho : t.ok) (h1 : 1 ≤ n) (h0 : n ≤ 1000) (h2 : n * (t.text.length + 10) ≤ 10000) (h3 : t.rows.length ≤ 500) (q : RepPost a K s F H t n Q E) : rRMul a.C_Expression (sp_many a K s) E (.int (n : Nat)) (.ref p) H Q := by
  obtain ⟨dx, l, xs, hp, _, _⟩ := h.ex
  exact ⟨(n : Nat), p, dx, _, rfl, rfl, fh _ _ hp, F, p, t, n, rfl, fh, h, ho, h1, h0, h2, h3, fun c F' H' v g ⟨p', e, he⟩ => ⟨p', e, q.1 c F' H' (.ref p') g ⟨p', rfl, he⟩⟩, q.2⟩
theorem ask_pow (fh : Same F H) (h : ExprAt a K F p t.text t.rows) (ho : t.ok) (h1 : 1 ≤ n) (h0 : n ≤ 1000) (h2 : n * (t.text.length + 10) ≤ 10000) (h3 : t.rows.length ≤ 500) (q : RepPost a K s F H t n Q E) : rBinI a.C_Expression (sp_many a K s) E (.ref p) (.int (n : Nat)) H Q := by
  obtain ⟨dx, l, xs, hp, _, _⟩ := h.ex
  exact ⟨(n : Nat), p, dx, _, rfl, rfl, fh _ _ hp, F, p, t, n, rfl, fh, h, ho, h1, h0, h2, h3, fun c F' H' v g ⟨p', e, he⟩ => ⟨p', e, q.1 c F' H' (.ref p') g ⟨p', rfl, he⟩⟩, q.2⟩
end
section
variable {P : Program} {w : World} {K : PySem.W.Frag} {mg : Str → Option Value} {base : Heap} {a : Ad}
theorem steps_tx : Str.ofString "steps" = tx [115, 116, 101, 112, 115] := by decide +kernel
def sp_law_joined_right (a : Ad) (K : PySem.W.Frag) : Sp := fun vs H Q _ => ∃ (F : Hp) (s : List Nat) (p1 p2 : Addr) (t1 t2 : Tree) (n : Nat), vs = [.str (tx s), .ref p1, .ref p2, .int (n : Nat)] ∧ s ∈ binaries ∧ Same F H ∧ ExprAt a K F p1 t1.text t1.rows ∧ ExprAt a K F p2 t2.text t2.rows ∧
  n = nSteps t1.rows + nSteps t2.rows + 1 ∧ t1.text.length ≤ 10000 ∧ t2.text.length ≤ 10000 ∧ t1.rows.length ≤ 1000 ∧ t2.rows.length ≤ 1000 ∧ ∀ F' H', Grow [] F H F' H' → Q (.bl true) H'
theorem ok_law_joined_right (T : Txt K mg a) : FnOk P w K mg base CX0 6 a.f_law_joined_right a.fd_law_joined_right ["_law_sign", "_law_one", "_law_other", "_law_many"]  (sp_law_joined_right a K) := by
  refine T.F_law_joined_right.ok sc_law_joined_right (fun vs H Q E h => ?_) (fun cdv A outer s H vs Q E hr h => ?_)
  · obtain ⟨_, _, _, _, _, _, _, rfl, _⟩ := h
    rfl
  · obtain ⟨F, sg, p1, p2, t1, t2, n, rfl, hs, fh, h1, h2, hn, l1, l2, l3, l4, k⟩ := h
    refine ⟨_, ((pss_cons (ps_try_as (i := 5) rfl rfl sc_law_joined_right.nd rfl rfl ⟨rfl, by decide, .inl T.g_TooMany⟩ takes0 (fun W pn xe tk _ => (pss_one (ps_set (i := 4) sc_law_joined_right.nd rfl (Or.inl rfl) (pe_callS (ok_law_joined T) hr rfl T.g_law_joined T.F_law_joined.kp T.b_law_joined (fun σ => passAt tk σ) (pa_cons (pv 0) (pa_cons (pv 1) (pa_cons (pv 2) pa_nil)))))))
 (fun a oe cls d pn hz hf => (pss_one (ps_ret (pe_and (pe_cmpR op_gt (pv 3) pe_int (nomark _)) (pe_and (pe_cmpR op_eq (pe_xf T.xf_TooMany T.no_TooMany_what hz hf (pv 5)) pe_str (nomark _)) (pe_one (pe_callB (call_isX T.xc_TooMany hz hf) (by rfl) T.n_isinstance (by decide +kernel) (pa_cons (pv 5) (pa_cons (pe_glob (v := .ref _) rfl T.g_HeirsbackError rfl) pa_nil))))))))))
 (pss_one (ps_ret (pe_and (pe_cmpR op_le (pv 3) pe_int (nomark _)) (pe_one (pe_cmpR op_eq (pe_callB (call_lenO (own_Expression_len T) (hr.mono (by decide))) (by rfl) T.n_len (by decide +kernel) (pa_cons (pv 4) pa_nil)) (pv 3) (nomark _)))))))), ?_⟩
    try simp only [cxK]
    lcg_off
    refine rd_callS ?_
    lcg_off
    refine ⟨F, sg, p1, p2, _, _, _, _, rfl, hs, fh, h1, h2, l1, l2, l3, l4, fun hc F' H' v g ⟨p, ev, he⟩ => ?_, fun hc => ?_⟩
    · subst ev
      have en : nSteps (t1.rows ++ t2.rows ++ [.done sg 2]) = n := by rw [nSteps_app, nSteps_app, nSteps_done, hn]
      lcg_off
      refine ifT (decide_eq_true (by omega)) ?_
      lcg_off
      refine ask_len g.fh he (by simp; omega) fun F2 H2 g2 => ?_
      rw [en]
      lcg_off
      have e : decide (V.int (n : Int) = V.int (n : Int)) = true := decide_eq_true rfl
      rw [e]
      exact k F2 H2 (g.trans g2)
    · intro dd H' s' n' e'
      refine rd_wAs T.ex_tt ?_
      intro ax hax
      lcg_off
      refine ifT (decide_eq_true (by omega)) ?_
      lcg_off
      refine rd_xf ?_
      lcg_off
      refine ⟨rfl, dd, _, .str "steps", rfl, e', by simp [List.lookup], ?_⟩
      lcg_off
      refine ifT (by decide +kernel) ?_
      lcg_off
      refine rd_isX e' (.own _) T.ki_hb ?_
      exact k F H' (Grow.ofSame fh s')
def sp_law_marked_right (a : Ad) (K : PySem.W.Frag) : Sp := fun vs H Q _ => ∃ (F : Hp) (s : List Nat) (p1 : Addr) (t1 : Tree) (n : Nat), vs = [.str (tx s), .ref p1, .int (n : Nat)] ∧ s ∈ unaries ∧ Same F H ∧ ExprAt a K F p1 t1.text t1.rows ∧
  n = nSteps t1.rows + 1 ∧ t1.text.length ≤ 10000 ∧ 0 < t1.text.length ∧ t1.rows.length ≤ 1000 ∧ ∀ F' H', Grow [] F H F' H' → Q (.bl true) H'
theorem ok_law_marked_right (T : Txt K mg a) : FnOk P w K mg base CX0 7 a.f_law_marked_right a.fd_law_marked_right ["_law_sign", "_law_one", "_law_many"]  (sp_law_marked_right a K) := by
  refine T.F_law_marked_right.ok sc_law_marked_right (fun vs H Q E h => ?_) (fun cdv A outer s H vs Q E hr h => ?_)
  · obtain ⟨_, _, _, _, _, rfl, _⟩ := h
    rfl
  · obtain ⟨F, sg, p1, t1, n, rfl, hs, fh, h1, hn, l1, l0, l3, k⟩ := h
    refine ⟨_, ((pss_cons (ps_try_as (i := 4) rfl rfl sc_law_marked_right.nd rfl rfl ⟨rfl, by decide, .inl T.g_HeirsbackError⟩ takes0 (fun W pn xe tk _ => (pss_one (ps_set (i := 3) sc_law_marked_right.nd rfl (Or.inl rfl) (pe_callS (ok_law_marked T) hr rfl T.g_law_marked T.F_law_marked.kp T.b_law_marked (fun σ => passAt tk σ) (pa_cons (pv 0) (pa_cons (pv 1) pa_nil))))))
 (fun a oe cls d pn hz hf => (pss_one (ps_ret (pe_and (pe_cmpR op_gt (pv 2) pe_int (nomark _)) (pe_and (pe_callB (call_isX T.xc_TooMany hz hf) (by rfl) T.n_isinstance (by decide +kernel) (pa_cons (pv 4) (pa_cons (pe_glob (v := .ref _) rfl T.g_TooMany rfl) pa_nil))) (pe_one (pe_cmpR op_ne (pe_callTy (call_strQ (ownQ_Expression_str T) (hr.mono (by decide))) (by rfl) T.n_str (by decide +kernel) (pa_cons (pv 1) pa_nil)) pe_str (nomark _)))))))))
 (pss_one (ps_ret (pe_and (pe_cmpR op_le (pv 2) pe_int (nomark _)) (pe_one (pe_cmpR op_eq (pe_callB (call_lenO (own_Expression_len T) (hr.mono (by decide))) (by rfl) T.n_len (by decide +kernel) (pa_cons (pv 3) pa_nil)) (pv 2) (nomark _)))))))), ?_⟩
    try simp only [cxK, nil_tx]
    lcg_off
    refine rd_callS ?_
    lcg_off
    refine ⟨F, sg, p1, _, _, rfl, hs, fh, h1, l1, l3, fun hc F' H' v g ⟨p, ev, he⟩ => ?_, fun hc => ?_⟩
    · subst ev
      have en : nSteps (t1.rows ++ [.done sg 1]) = n := by rw [nSteps_app, nSteps_done, hn]
      lcg_off
      refine ifT (decide_eq_true (by omega)) ?_
      lcg_off
      refine ask_len g.fh he (by simp; omega) fun F2 H2 g2 => ?_
      rw [en]
      lcg_off
      have e : decide (V.int (n : Int) = V.int (n : Int)) = true := decide_eq_true rfl
      rw [e]
      exact k F2 H2 (g.trans g2)
    · intro dd H' s' n' e'
      refine rd_wAs T.ex_th ?_
      intro ax hax
      lcg_off
      refine ifT (decide_eq_true (by omega)) ?_
      lcg_off
      refine rd_isX e' (.own _) T.ki_tm ?_
      lcg_off
      refine ifT rfl ?_
      lcg_off
      refine ask_str (fh.trans s') h1 ?_
      lcg_off
      have e : (!decide (t1.text = [])) = true := by
        have : t1.text ≠ [] := fun z => by rw [z] at l0; simp at l0
        simp [this]
      rw [e]
      exact k F H' (Grow.ofSame fh s')
def sp_law_power (a : Ad) (K : PySem.W.Frag) : Sp := fun vs H Q E => ∃ (F : Hp) (p : Addr) (t : Tree) (n : Nat), vs = [.ref p, .int (n : Nat)] ∧ n ∈ [1, 9, 10, 11, 50, 51, 64] ∧ Same F H ∧ ExprAt a K F p t.text t.rows ∧ t.ok ∧
  n * (t.text.length + 10) ≤ 10000 ∧ t.rows.length ≤ 500 ∧ RepPost a K [42] F H t n Q E
theorem ok_law_power (T : Txt K mg a) : FnOk P w K mg base (CX P w) 6 a.f_law_power a.fd_law_power ["_law_one", "_law_times"]  (sp_law_power a K) := by
  refine T.F_law_power.okX sc_law_power (fun vs H Q E h => ?_) (fun cdv A outer s H vs Q E hr h => ?_)
  · obtain ⟨_, _, _, _, rfl, _⟩ := h
    rfl
  · obtain ⟨F, p, t, n, rfl, hn, fh, hE, ho, hb, hb2, k⟩ := h
    refine ⟨_, ((pss_cons (ps_if (pt_cmpR op_eq (pv 1) pe_int (nomark _))
 (pss_one (ps_ret (pe_op (op_binOI (own_Expression_pow T (passes_call (takes_of rfl rfl rfl rfl) (fun _ _ _ _ h => h))) T.sf_Expression T.xr_Expression_pow (Or.inl rfl) T.xi_Expression_pow T.xj_Expression_pow T.xs_Expression_int hr) (pv 0) pe_int)))
 pss_nil)
 (pss_cons (ps_if (pt_cmpR op_eq (pv 1) pe_int (nomark _))
 (pss_one (ps_ret (pe_op (op_binOI (own_Expression_pow T (passes_call (takes_of rfl rfl rfl rfl) (fun _ _ _ _ h => h))) T.sf_Expression T.xr_Expression_pow (Or.inl rfl) T.xi_Expression_pow T.xj_Expression_pow T.xs_Expression_int hr) (pv 0) pe_int)))
 pss_nil)
 (pss_cons (ps_if (pt_cmpR op_eq (pv 1) pe_int (nomark _))
 (pss_one (ps_ret (pe_op (op_binOI (own_Expression_pow T (passes_call (takes_of rfl rfl rfl rfl) (fun _ _ _ _ h => h))) T.sf_Expression T.xr_Expression_pow (Or.inl rfl) T.xi_Expression_pow T.xj_Expression_pow T.xs_Expression_int hr) (pv 0) pe_int)))
 pss_nil)
 (pss_cons (ps_if (pt_cmpR op_eq (pv 1) pe_int (nomark _))
 (pss_one (ps_ret (pe_op (op_binOI (own_Expression_pow T (passes_call (takes_of rfl rfl rfl rfl) (fun _ _ _ _ h => h))) T.sf_Expression T.xr_Expression_pow (Or.inl rfl) T.xi_Expression_pow T.xj_Expression_pow T.xs_Expression_int hr) (pv 0) pe_int)))
 pss_nil)
 (pss_cons (ps_if (pt_cmpR op_eq (pv 1) pe_int (nomark _))
 (pss_one (ps_ret (pe_op (op_binOI (own_Expression_pow T (passes_call (takes_of rfl rfl rfl rfl) (fun _ _ _ _ h => h))) T.sf_Expression T.xr_Expression_pow (Or.inl rfl) T.xi_Expression_pow T.xj_Expression_pow T.xs_Expression_int hr) (pv 0) pe_int)))
 pss_nil)
 (pss_one (ps_ret (pe_ifExp (pt_cmpR op_eq (pv 1) pe_int (nomark _)) (pe_op (op_binOI (own_Expression_pow T (passes_call (takes_of rfl rfl rfl rfl) (fun _ _ _ _ h => h))) T.sf_Expression T.xr_Expression_pow (Or.inl rfl) T.xi_Expression_pow T.xj_Expression_pow T.xs_Expression_int hr) (pv 0) pe_int) (pe_op (op_binOI (own_Expression_pow T (passes_call (takes_of rfl rfl rfl rfl) (fun _ _ _ _ h => h))) T.sf_Expression T.xr_Expression_pow (Or.inl rfl) T.xi_Expression_pow T.xj_Expression_pow T.xs_Expression_int hr) (pv 0) pe_int)))))))))), ?_⟩
    try simp only [cxK]
    simp only [List.mem_cons, List.not_mem_nil, or_false] at hn
    rcases hn with rfl | rfl | rfl | rfl | rfl | rfl | rfl
    all_goals
      repeat (lcg_off; first | refine ifT (by decide) ?_ | refine ifF (by decide) ?_)
      lcg_off
      first | exact ask_pow (n := 1) fh hE ho (by omega) (by omega) hb hb2 k | exact ask_pow (n := 9) fh hE ho (by omega) (by omega) hb hb2 k | exact ask_pow (n := 10) fh hE ho (by omega) (by omega) hb hb2 k | exact ask_pow (n := 11) fh hE ho (by omega) (by omega) hb hb2 k | exact ask_pow (n := 50) fh hE ho (by omega) (by omega) hb hb2 k | exact ask_pow (n := 51) fh hE ho (by omega) (by omega) hb hb2 k | exact ask_pow (n := 64) fh hE ho (by omega) (by omega) hb hb2 k
end
end Ex

namespace Ex
open PySem L2 Hk
local macro_rules | `(tactic| array_mem_dec) => `(tactic| with_reducible first
  | assumption | exact upd_same
  | (apply upd_new; assumption; array_mem_dec)
  | (apply upd_old; tlg_ne; array_mem_dec)
  | (apply same_at; assumption; array_mem_dec))
local macro_rules | `(tactic| tlg_ne) => `(tactic| with_reducible first
  | assumption | (apply Ne.symm; assumption)
  | (apply ne_new; assumption; array_mem_dec) | (apply ne_new'; assumption; array_mem_dec)
  | (apply ne_of; assumption; assumption; (with_unfolding_all (intro z; cases z; done))))
local macro_rules | `(tactic| decreasing_trivial_pre_omega) => `(tactic| with_reducible first
  | assumption | (apply sqL_of; array_mem_dec) | (apply sqT_of; array_mem_dec)
  | (apply Same.seq; assumption; decreasing_trivial_pre_omega) | (apply sqT_same; assumption; decreasing_trivial_pre_omega)
  | (apply sqL_new; assumption; decreasing_trivial_pre_omega) | (apply sqL_upd; tlg_ne; decreasing_trivial_pre_omega))
local macro_rules | `(tactic| kpt_turns) => `(tactic| with_reducible first
  | assumption | exact Same.refl _ | (apply same_ext; kpt_turns; assumption) | (apply same_mut; kpt_turns; keq_hits) | (apply same_step; assumption; kpt_turns))
local macro_rules | `(tactic| keq_hits) => `(tactic| with_reducible first | assumption | (apply same_none; assumption; keq_hits))
local macro_rules | `(tactic| sizeOf_list_dec) => `(tactic| first | (with_reducible assumption) | (with_reducible_and_instances omega) | (with_unfolding_all decide))
local macro_rules | `(tactic| array_get_dec) => `(tactic| first | (with_reducible assumption) | (apply sz_of; (with_unfolding_all simp); done) | (apply sz_of; omega) | (apply sz_lt; (with_unfolding_all simp); done) | (apply sz_lt; omega))
local macro_rules | `(tactic| keq_rows) => `(tactic| with_reducible first
  | apply rd_asgN | apply rd_seq | apply rd_parA | apply rd_par3A | apply rd_par2 | apply rd_par3 | apply rd_m1 | apply rd_isStr | apply rd_cval | apply rd_asg | apply rd_gname | apply rd_op | (show tVar _ _ _ _; refine rd_var (by with_unfolding_all rfl) ?_) | apply rd_c | apply rd_I0
  | apply rd_cons | apply rd_nil | apply rd_cb | apply rd_test | apply rd_bl | apply rd_fld | apply rd_drop | apply rd_ret | apply rd_retN | apply rd_next
  | apply rd_ifS | apply rd_un | apply rd_B | apply rd_and | apply rd_or | apply rd_not | apply rd_andV | apply rd_orV | apply rd_notV | apply rd_if
  | apply rd_int | apply rd_abs | apply rd_max | apply rd_min | apply rd_strS | apply rd_U
  | apply rd_eqTx | apply rd_neTx | apply rd_inTx | apply rd_notInTx | apply rd_fmt | (show FmtK (.str (tx _)) _ _; refine rd_fmtT (by omega) ?_) | apply rd_jsC | apply rd_jsN | (show JsK _ (tx _) _ (.str (tx _)) _ _; refine rd_JsK (by first | omega | (simp; done) | (simp; omega)) ?_) | (show rAddStr (.str (tx _)) (.str (tx _)) _ _; refine rd_addT (by first | omega | (simp; done) | (simp; omega)) ?_) | (show rLenStr [.str (tx _)] _ _; refine rd_lenTx (by omega) ?_)
  | (show rEq _ _ _ _; refine rd_eq (by with_unfolding_all rfl) ?_) | (show rNe _ _ _ _; refine rd_ne (by with_unfolding_all rfl) ?_) | apply rd_isNone | apply rd_notNone
  | (show rIxL _ _ _ _ _; refine rd_ixL (by decreasing_trivial_pre_omega) (by with_unfolding_all rfl) ?_) | (show rIxT _ _ _ _ _; refine rd_ixT (by decreasing_trivial_pre_omega) (by with_unfolding_all rfl) ?_)
  | (show rLenSeq _ _ _ _; refine rd_lenL (by decreasing_trivial_pre_omega) ?_) | (show rLenSeq _ _ _ _; refine rd_lenT (by decreasing_trivial_pre_omega) ?_)
  | (show rI _ _ _ _ _ _; refine rd_mod (by sizeOf_list_dec) ?_) | (show rI _ _ _ _ _ _; refine rd_div (by sizeOf_list_dec) (by sizeOf_list_dec) ?_) | (show rI _ _ _ _ _ _; refine rd_mulR (by sizeOf_list_dec) (by sizeOf_list_dec) ?_) | (show rI _ _ _ _ _ _; refine rd_mulL (by sizeOf_list_dec) (by sizeOf_list_dec) ?_) | (show rI _ _ _ _ _ _; refine rd_pow (by sizeOf_list_dec) ?_)
  | (show rSetL _ _ _ _ _; refine rd_setL (by array_mem_dec) (by with_unfolding_all rfl) ?_)
  | apply rd_inSign | apply rd_notInSign | apply rd_tupK | apply rd_lstK | apply rd_sl | apply rd_noPart | apply rd_part | apply rd_isInt
  | apply rd_gsub | apply rd_gcons | apply rd_gnil | apply rd_call | apply rd_meth | apply rd_make | apply rd_smeth | apply rd_isC | apply rd_smethK | apply rd_cmeth | apply rd_cmethK
  | apply rd_bm | apply rd_bm0 | (show BmK _ _ _ _ _ _ _ _; refine rd_bmL (by array_mem_dec) ?_) | (show Bm0K _ _ _ _ _ _; refine rd_bm0L (by array_mem_dec) ?_) | apply rd_sfld | apply rd_aug | apply rd_rAdd | apply rd_brk | apply rd_cont
  | apply rd_for | apply rd_iList | (show IList _ _ _ _; refine rd_IList (by decreasing_trivial_pre_omega) ?_) | apply rd_iTup | (show ITup _ _ _ _; refine rd_ITup (by decreasing_trivial_pre_omega) ?_) | apply rd_iEnum | (show IEnum _ _ _ _; refine rd_IEnum (by decreasing_trivial_pre_omega) ?_) | apply rd_iRng1 | (show IRng1 _ _ _; refine rd_IRng1 (by sizeOf_list_dec) (by sizeOf_list_dec) ?_)
  | (show rLenStr _ _ _; refine rd_lenS (by array_get_dec) ?_) | (show rAddStr _ _ _ _; refine rd_addS (by array_get_dec) ?_) | (show rSlS _ _ _ _ _; refine rd_slS (by array_get_dec) ?_) | apply rd_lc | apply rd_yes | (show gTup _ _ _ _ _ _ _; refine rd_gtup (by decreasing_trivial_pre_omega) (by with_unfolding_all rfl) ?_) | (show tMakeL _ _ _ _ _ _ _ _; refine rd_makeL (by with_unfolding_all rfl) ?_))
local macro_rules | `(tactic| kas_types) => `(tactic| with_reducible first | apply rd_isi_int_int | apply rd_isi_int_bool | apply rd_isi_int_str | apply rd_isi_int_list | apply rd_isi_int_tuple | apply rd_isi_bool_int | apply rd_isi_bool_bool | apply rd_isi_bool_str | apply rd_isi_bool_list | apply rd_isi_bool_tuple | apply rd_isi_str_int | apply rd_isi_str_bool | apply rd_isi_str_str | apply rd_isi_str_list | apply rd_isi_str_tuple | (show rIsi _ _ _ _; refine rd_isi_list_int (by array_mem_dec) ?_) | (show rIsi _ _ _ _; refine rd_isi_list_bool (by array_mem_dec) ?_) | (show rIsi _ _ _ _; refine rd_isi_list_str (by array_mem_dec) ?_) | (show rIsi _ _ _ _; refine rd_isi_list_list (by array_mem_dec) ?_) | (show rIsi _ _ _ _; refine rd_isi_list_tuple (by array_mem_dec) ?_) | (show rIsi _ _ _ _; refine rd_isi_tuple_int (by array_mem_dec) ?_) | (show rIsi _ _ _ _; refine rd_isi_tuple_bool (by array_mem_dec) ?_) | (show rIsi _ _ _ _; refine rd_isi_tuple_str (by array_mem_dec) ?_) | (show rIsi _ _ _ _; refine rd_isi_tuple_list (by array_mem_dec) ?_) | (show rIsi _ _ _ _; refine rd_isi_tuple_tuple (by array_mem_dec) ?_) | apply rd_isi_NoneType_int | apply rd_isi_NoneType_bool | apply rd_isi_NoneType_str | apply rd_isi_NoneType_list | apply rd_isi_NoneType_tuple)
local macro_rules | `(tactic| lcg_src) => `(tactic| repeat keq_rows)

local macro_rules | `(tactic| lcg_off) => `(tactic| repeat keq_rows)
def tAPair : Tree := .leaf [97] [80, 97, 105, 114]
def tBPair : Tree := .leaf [98] [80, 97, 105, 114]
theorem tAPair_ok : tAPair.ok := ⟨⟨by simp, by simp, by decide⟩, ⟨80, [97, 105, 114], rfl, by decide, by simp, by decide⟩⟩
theorem tBPair_ok : tBPair.ok := ⟨⟨by simp, by simp, by decide⟩, ⟨80, [97, 105, 114], rfl, by decide, by simp, by decide⟩⟩
theorem a_tx : Str.ofString "a" = tx [97] := by decide +kernel
theorem b_tx : Str.ofString "b" = tx [98] := by decide +kernel
theorem pair_tx : Str.ofString "Pair" = tx [80, 97, 105, 114] := by decide +kernel
theorem un4_eq : ([.str "neg", .str "pos", .str "abs", .str "invert"] : List V) = unaries.map wd := by decide +kernel
def four : List (List Nat) := [[43], [42], [60, 60], [94]]
theorem four_bin : ∀ s ∈ four, s ∈ binaries := by decide
theorem four_eq : ([.str "+", .str "*", .str "<<", .str "^"] : List V) = four.map wd := by decide +kernel
theorem nine_eq : ([.str "+", .str "-", .str "*", .str "//", .str "&", .str "|", .str "^", .str "<<", .str ">>"] : List V) = binaries.map wd := by decide +kernel
/-- what law_long gives -/
structure Long (t : Tree) (n : Nat) : Prop where
  ok : t.ok
  steps : nSteps t.rows = n
  len : t.text.length ≤ 6 + 12 * n
  pos : 0 < t.text.length
section
variable {P : Program} {w : World} {K : PySem.W.Frag} {mg : Str → Option Value} {base : Heap} {a : Ad}
def sp_law_long (a : Ad) (K : PySem.W.Frag) : Sp := fun vs H Q _ => ∃ (F : Hp) (b : Addr) (n : Nat), vs = [.ref b, .int (n : Nat)] ∧ Bag F H b ∧ n ≤ 100 ∧
  ∀ F' H' p t, Grow [b] F H F' H' → Bag F' H' b → ExprAt a K F' p t.text t.rows → Long t n → Q (.ref p) H'
theorem ok_law_long (T : Txt K mg a) : FnOk P w K mg base CX0 7 a.f_law_long a.fd_law_long ["_law_bag_here", "_law_many"]  (sp_law_long a K) := by
  refine T.F_law_long.ok sc_law_long (fun vs H Q E h => ?_) (fun cdv A outer s H vs Q E hr h => ?_)
  · obtain ⟨_, _, _, rfl, _⟩ := h
    rfl
  · obtain ⟨F, b, n, rfl, hb, hn, k⟩ := h
    refine ⟨_, ((pss_cons (ps_par (i := 2) (j := 3) (by rfl) sc_law_long.nd rfl rfl (by decide) rfl rfl (pa_cons (pe_smeth (pe_glob (v := .ref _) rfl T.g_Expression rfl) T.sm_Expression_leaf (ok_Expression_leaf T) (hr.mono (by decide)) T.b_Expression_leaf pass0 (pa_cons pe_str (pa_cons pe_str pa_nil))) (pa_cons (pv 1) pa_nil)) (by rfl))
 (pss_cons (ps_while PassesOwn.never (pt_cmpR op_gt (pv 3) pe_int (nomark _))
 (pss_cons (ps_if (pt_cmpR op_eq (pe_call (ok_law_take T) (hr.mono (by decide)) rfl T.g_law_take T.F_law_take.kp T.b_law_take .nil pass0 (pa_cons (pv 0) (pa_cons pe_int pa_nil))) pe_int (nomark _))
 (pss_one (ps_set (i := 2) sc_law_long.nd rfl (Or.inl rfl) (pe_call (ok_law_marked T) hr rfl T.g_law_marked T.F_law_marked.kp T.b_law_marked .nil passN (pa_cons (pe_call (ok_law_of T) (hr.mono (by decide)) rfl T.g_law_of T.F_law_of.kp T.b_law_of .nil pass0 (pa_cons (pv 0) (pa_cons (pe_lst (pa_cons pe_str (pa_cons pe_str (pa_cons pe_str (pa_cons pe_str pa_nil))))) pa_nil))) (pa_cons (pv 2) pa_nil)))))
 (pss_one (ps_set (i := 2) sc_law_long.nd rfl (Or.inl rfl) (pe_call (ok_law_joined T) (hr.mono (by decide)) rfl T.g_law_joined T.F_law_joined.kp T.b_law_joined .nil passN (pa_cons (pe_call (ok_law_of T) (hr.mono (by decide)) rfl T.g_law_of T.F_law_of.kp T.b_law_of .nil pass0 (pa_cons (pv 0) (pa_cons (pe_lst (pa_cons pe_str (pa_cons pe_str (pa_cons pe_str (pa_cons pe_str pa_nil))))) pa_nil))) (pa_cons (pv 2) (pa_cons (pe_smeth (pe_glob (v := .ref _) rfl T.g_Expression rfl) T.sm_Expression_leaf (ok_Expression_leaf T) (hr.mono (by decide)) T.b_Expression_leaf pass0 (pa_cons pe_str (pa_cons pe_str pa_nil))) pa_nil)))))))
 (pss_one (ps_aug (i := 3) sc_law_long.nd rfl (Or.inl rfl) pe_int ip_sub))))
 (pss_one (ps_ret (pv 2)))))), ?_⟩
    try simp only [cxK, a_tx, b_tx, pair_tx]
    lcg_off
    refine ⟨F, [97], [80, 97, 105, 114], rfl, hb.fh, by simp, by simp, fun F1 H1 v g1 ⟨p1, e1, h1⟩ => ?_⟩
    subst e1
    have hb1 := hb.go0 g1
    lcg_off
    refine rd_whileN (fun m σ H' => ∃ (F' : Hp) (p : Addr) (t : Tree), m ≤ n ∧ σ = [some (.ref b), some (.int (n : Nat)), some (.ref p), some (.int (m : Nat))] ∧ Grow [b] F H F' H' ∧ Bag F' H' b ∧ ExprAt a K F' p t.text t.rows ∧ Long t (n - m)) n
      ⟨F1, p1, tAPair, Nat.le_refl _, rfl, g1.weak, hb1, h1, tAPair_ok, by rw [Nat.sub_self]; rfl, by simp [tAPair, Tree.text], by simp [tAPair, Tree.text]⟩ ?_
    rintro m σ H2 ⟨F2, p2, t2, hm, rfl, g2, hb2, h2, hL⟩
    lcg_off
    refine ifD (fun c => ?_) (fun c => ?_)
    · have hm1 : 1 ≤ m := by omega
      have hrs := t2.rows_steps
      have hst := hL.steps
      have hln := hL.len
      have hps := hL.pos
      refine ⟨fun σ H' => ∃ (F' : Hp) (p : Addr) (t : Tree), m - 1 ≤ n ∧ σ = [some (.ref b), some (.int (n : Nat)), some (.ref p), some (.int ((m - 1 : Nat) : Nat))] ∧ Grow [b] F H F' H' ∧ Bag F' H' b ∧ ExprAt a K F' p t.text t.rows ∧ Long t (n - (m - 1)), fun σ' H' h => ⟨m - 1, by omega, h⟩, ?_⟩
      have fin : ∀ (F' H' : Hp) (p : Addr) (t : Tree), Grow [b] F2 H2 F' H' → Bag F' H' b → ExprAt a K F' p t.text t.rows → t.ok → nSteps t.rows = nSteps t2.rows + 1 → t.text.length ≤ t2.text.length + 12 → 0 < t.text.length →
          (fun (σ : L2.St) (H' : Hp) => ∃ (F' : Hp) (p : Addr) (t : Tree), m - 1 ≤ n ∧ σ = [some (.ref b), some (.int (n : Nat)), some (.ref p), some (.int ((m - 1 : Nat) : Nat))] ∧ Grow [b] F H F' H' ∧ Bag F' H' b ∧ ExprAt a K F' p t.text t.rows ∧ Long t (n - (m - 1))) [some (.ref b), some (.int (n : Nat)), some (.ref p), some (.int ((m : Int) - 1))] H' := by
        intro F' H' p t g' hb' h' ho hs hl hp
        refine ⟨F', p, t, by omega, ?_, g2.trans g', hb', h', ho, by omega, by omega, hp⟩
        rw [show ((m - 1 : Nat) : Int) = (m : Int) - 1 by omega]
      lcg_off
      refine take_ok hb2 (by decide) (by decide) fun r3 H3 hr3 g3 hb3 => ?_
      lcg_off
      refine ifD (fun c => ?_) (fun c => ?_)
      · lcg_off
        refine newL hb3.fh fun F4 H4 l4 g4 nl4 hl4 => ?_
        rw [un4_eq] at hl4
        lcg_off
        refine of_words (hb3.go0 g4) hl4 (by decide) (by decide) fun u H5 hu g5 hb5 => ?_
        have hul := un_len u hu
        lcg_off
        refine ⟨F4, u, p2, _, _, rfl, hu, hb5.fh, h2.mono g4.ff, by omega, by omega, fun hc F6 H6 v g6 ⟨p6, e6, h6⟩ => ?_, fun hc => by omega⟩
        subst e6
        lcg_off
        refine ⟨.int (m : Nat), by with_unfolding_all rfl, ?_⟩
        lcg_off
        refine ⟨(m : Int), 1, rfl, rfl, ?_⟩
        refine fin F6 H6 p6 (.un u t2) ((g3.trans g4.weak).trans (g5.trans g6.weak)) (hb5.go0 g6) (by simpa [utext, Tree.text, Tree.rows] using h6) ⟨hu, hL.ok⟩ (by simp [Tree.rows, nSteps_app, nSteps_done]) (by simp [Tree.text]; omega) (by simp [Tree.text]; omega)
      · lcg_off
        refine newL hb3.fh fun F4 H4 l4 g4 nl4 hl4 => ?_
        rw [four_eq] at hl4
        lcg_off
        refine of_words (hb3.go0 g4) hl4 (by decide) (by decide) fun u H5 hu g5 hb5 => ?_
        have hu2 := four_bin u hu
        have hul := bin_len u hu2
        lcg_off
        refine ⟨F4, [98], [80, 97, 105, 114], rfl, hb5.fh, by simp, by simp, fun F6 H6 v6 g6 ⟨p6, e6, h6⟩ => ?_⟩
        subst e6
        lcg_off
        refine ⟨F6, u, p2, p6, _, _, _, _, rfl, hu2, g6.fh, (h2.mono g4.ff).mono g6.ff, h6, by omega, by simp, by omega, by simp, fun hc F7 H7 v g7 ⟨p7, e7, h7⟩ => ?_, fun hc => ?_⟩
        · subst e7
          lcg_off
          refine ⟨.int (m : Nat), by with_unfolding_all rfl, ?_⟩
          lcg_off
          refine ⟨(m : Int), 1, rfl, rfl, ?_⟩
          refine fin F7 H7 p7 (.bin u t2 tBPair) ((g3.trans g4.weak).trans ((g5.trans g6.weak).trans g7.weak)) ((hb5.go0 g6).go0 g7) (by simpa [btext, Tree.text, Tree.rows, tBPair] using h7) ⟨hu2, hL.ok, tBPair_ok⟩ ?_ (by simp [Tree.text, tBPair]; omega) (by simp [Tree.text])
          have e : nSteps tBPair.rows = 0 := rfl
          simp [Tree.rows, nSteps_app, nSteps_done, e]
        · have e : nSteps [Row.leaf [98] [80, 97, 105, 114]] = 0 := rfl
          rw [e] at hc
          omega
    · have hm0 : m = 0 := by omega
      subst hm0
      lcg_off
      exact k F2 H2 p2 t2 g2 hb2 h2 hL
/-- what a multiple or a power is: the expression, or the word that is told -/
def Got (a : Ad) (K : PySem.W.Frag) (F : Hp) (t : Tree) (n : Nat) (v : V) : Prop :=
  (n * (nSteps t.rows + 1) ≤ 101 ∧ ∃ (p : Addr) (tt : List Nat) (rr : List Row), v = .ref p ∧ ExprAt a K F p tt rr ∧ nSteps rr + 1 = n * (nSteps t.rows + 1) ∧ rr.length ≤ 1000) ∨ (101 < n * (nSteps t.rows + 1) ∧ v = .str "steps")
theorem Got.mono {F F' : Hp} {t : Tree} {n : Nat} {v : V} (h : Got a K F t n v) (e : Same F F') : Got a K F' t n v := by
  rcases h with ⟨h1, p, tt, rr, h2, h3, h4⟩ | h
  · exact .inl ⟨h1, p, tt, rr, h2, h3.mono e, h4⟩
  · exact .inr h
theorem got_rep {F : Hp} {t : Tree} {n : Nat} {p : Addr} {s : List Nat} (h1 : 1 ≤ n) (h : n * (nSteps t.rows + 1) ≤ 101) (he : ExprAt a K F p (rep s t (n - 1)).text (rep s t (n - 1)).rows) : Got a K F t n (.ref p) := by
  have e := rep_steps s t (n - 1)
  rw [show n - 1 + 1 = n by omega] at e
  have e2 : n * (nSteps t.rows + 1) = n * nSteps t.rows + n := by rw [Nat.mul_add, Nat.mul_one]
  have e3 := (rep s t (n - 1)).rows_steps
  exact .inl ⟨h, p, _, _, rfl, he, by omega, by omega⟩
theorem kit_blt {K : PySem.W.Frag} {C : Addr} {b : Bool} {n : String} (hm : PySem.W.kitMeta n = true) (hs : PySem.W.subIn K (.ref C) (.type n) = some b) : PySem.W.kitOne K (.ref C) (.type n) = some b := by
  have e2 : (Value.ref C == Value.type n) = false := Bool.eq_false_iff.mpr fun q => by cases beq_iff_eq.mp q
  unfold PySem.W.kitOne
  rw [e2, if_neg Bool.false_ne_true]
  unfold PySem.W.kitCls
  simp only [hm, if_true]
  exact hs
theorem in7 : ∀ n < 65, inV (.int (n : Nat)) [.int 1, .int 9, .int 10, .int 11, .int 50, .int 51, .int 64] = decide (n ∈ [1, 9, 10, 11, 50, 51, 64]) := by decide +kernel
theorem kit_str_str {K : PySem.W.Frag} : PySem.W.kitOne K (.type "str") (.type "str") = some true := rfl
def sp_law_times_right (a : Ad) (K : PySem.W.Frag) : Sp := fun vs H Q _ => ∃ (F : Hp) (p : Addr) (t : Tree) (n : Nat), vs = [.ref p, .int (n : Nat), .int (((n * (nSteps t.rows + 1) - 1 : Nat)) : Int)] ∧ Same F H ∧ ExprAt a K F p t.text t.rows ∧ t.ok ∧ nSteps t.rows ≤ 9 ∧ t.text.length ≤ 140 ∧ t.rows.length ≤ 500 ∧ 1 ≤ n ∧ n ≤ 64 ∧
  ∀ F' H', Grow [] F H F' H' → Q (.bl true) H'
theorem ok_law_times_right (T : Txt K mg a) : FnOk P w K mg base CX0 7 a.f_law_times_right a.fd_law_times_right ["_law_one", "_law_times", "_law_many"]  (sp_law_times_right a K) := by
  refine T.F_law_times_right.ok sc_law_times_right (fun vs H Q E h => ?_) (fun cdv A outer s H vs Q E hr h => ?_)
  · obtain ⟨_, _, _, _, rfl, _⟩ := h
    rfl
  · obtain ⟨F, p, t, n, rfl, fh, hE, ho, hst, htl, hrl, hn1, hn, k⟩ := h
    have hbig : n * (t.text.length + 10) ≤ 10000 := by
      have : n * (t.text.length + 10) ≤ 64 * 150 := Nat.mul_le_mul hn (by omega)
      omega
    obtain ⟨m, hm⟩ : ∃ m, m = n * (nSteps t.rows + 1) - 1 := ⟨_, rfl⟩
    have hm1 : m + 1 = n * (nSteps t.rows + 1) := by
      have : 1 * 1 ≤ n * (nSteps t.rows + 1) := Nat.mul_le_mul hn1 (by omega)
      omega
    have hone : n = 1 → n * (nSteps t.rows + 1) ≤ 101 := fun z => by subst z; omega
    rw [← hm]
    refine ⟨_, ((Evl.pss_cut (ps_try_as (i := 4) rfl rfl sc_law_times_right.nd rfl rfl ⟨rfl, by decide, .inl T.g_TooMany⟩ takes0 (fun W pn xe tk _ => (pss_one (ps_set (i := 3) sc_law_times_right.nd rfl (Or.inl rfl) (pe_opS (op_rmulS (n := 5) (ownS_Expression_rmul T (fun σ => passAt tk σ)) T.m_Expression_mul.at_ T.sf_Expression T.xt_Expression_int (hr.mono (by decide))) (pv 1) (pv 0)))))
 (fun a oe cls d pn hz hf => (pss_one (ps_set (i := 3) sc_law_times_right.nd rfl (Or.inl rfl) (pe_xf T.xf_TooMany T.no_TooMany_what hz hf (pv 4))))))
 (Evl.pss_cut (ps_if (pt_ifExp (pt_cmpR op_le (pv 2) pe_int (nomark _)) (pt_val (pe_callB call_isi (by rfl) T.n_isinstance (by decide +kernel) (pa_cons (pv 3) (pa_cons (pe_bltn (v := .ty "str") (by rfl) T.n_str (by decide +kernel) rfl) pa_nil)))) (PW.pt (pw_or (pt_not (pt_val (pe_callB call_isi (by rfl) T.n_isinstance (by decide +kernel) (pa_cons (pv 3) (pa_cons (pe_bltn (v := .ty "str") (by rfl) T.n_str (by decide +kernel) rfl) pa_nil))))) (pw_or1 (pt_cmpR op_ne (pv 3) pe_str (nomark _))))))
 (pss_one (ps_ret pe_bl))
 pss_nil)
 (pss_cons (ps_if (pt_cmpR op_notIn_seq (pv 1) (pe_lst (pa_cons pe_int (pa_cons pe_int (pa_cons pe_int (pa_cons pe_int (pa_cons pe_int (pa_cons pe_int (pa_cons pe_int pa_nil)))))))) (by rfl))
 (pss_one (ps_ret (pe_or (pe_callB call_isi (by rfl) T.n_isinstance (by decide +kernel) (pa_cons (pv 3) (pa_cons (pe_bltn (v := .ty "str") (by rfl) T.n_str (by decide +kernel) rfl) pa_nil))) (pe_one (pe_cmpR op_eq (pe_callB (call_lenO (own_Expression_len T) (hr.mono (by decide))) (by rfl) T.n_len (by decide +kernel) (pa_cons (pv 3) pa_nil)) (pv 2) (nomark _))))))
 pss_nil)
 (Evl.pss_cut (ps_try_as (i := 4) rfl rfl sc_law_times_right.nd rfl rfl ⟨rfl, by decide, .inl T.g_TooMany⟩ takes0 (fun W pn xe tk _ => (pss_one (ps_set (i := 5) sc_law_times_right.nd rfl (Or.inl rfl) (pe_callS (ok_law_power T) hr rfl T.g_law_power T.F_law_power.kp T.b_law_power (fun σ => passAt tk σ) (pa_cons (pv 0) (pa_cons (pv 1) pa_nil))))))
 (fun a oe cls d pn hz hf => (pss_one (ps_set (i := 5) sc_law_times_right.nd rfl (Or.inl rfl) (pe_xf T.xf_TooMany T.no_TooMany_what hz hf (pv 4))))))
 (pss_cons (ps_if (pt_cmpR op_gt (pv 2) pe_int (nomark _))
 (pss_one (ps_ret (pe_and (pe_callB call_isi (by rfl) T.n_isinstance (by decide +kernel) (pa_cons (pv 5) (pa_cons (pe_bltn (v := .ty "str") (by rfl) T.n_str (by decide +kernel) rfl) pa_nil))) (pe_one (pe_cmpR op_eq (pv 5) pe_str (nomark _))))))
 pss_nil)
 (pss_one (ps_ret (pe_and (pe_not (pe_callB call_isi (by rfl) T.n_isinstance (by decide +kernel) (pa_cons (pv 5) (pa_cons (pe_bltn (v := .ty "str") (by rfl) T.n_str (by decide +kernel) rfl) pa_nil)))) (pe_and (pe_cmpR op_eq (pe_callB (call_lenO (own_Expression_len T) (hr.mono (by decide))) (by rfl) T.n_len (by decide +kernel) (pa_cons (pv 5) pa_nil)) (pv 2) (nomark _)) (pe_one (pe_cmpR op_eq (pe_callB (call_lenO (own_Expression_len T) (hr.mono (by decide))) (by rfl) T.n_len (by decide +kernel) (pa_cons (pv 3) pa_nil)) (pv 2) (nomark _))))))))))))), ?_⟩
    try simp only [cxK]
    refine rd_cut (fun σ' H' => ∃ (F' : Hp) (v : V), σ' = [some (.ref p), some (.int (n : Nat)), some (.int (m : Nat)), some v, none, none] ∧ Grow [] F H F' H' ∧ Got a K F' t n v) ?_ ?_
    · lcg_off
      refine rd_opS ?_
      lcg_off
      refine ask_rmul fh hE ho hn1 (by omega) hbig hrl ⟨fun hc F1 H1 v g1 ⟨p1, e1, h1⟩ => ?_, fun hc _ => ?_⟩
      · subst e1
        lcg_off
        refine ⟨F1, _, rfl, g1, got_rep hn1 ?_ h1⟩
        rcases hc with hc | hc
        · exact hc
        · exact hone hc
      · intro dd H' s' n' e'
        refine rd_wAs T.ex_tt ?_
        intro ax hax
        lcg_off
        refine rd_xf ?_
        lcg_off
        refine ⟨rfl, dd, _, .str "steps", rfl, e', by simp [List.lookup], ?_⟩
        lcg_off
        exact ⟨F, _, rfl, Grow.ofSame fh s', .inr ⟨hc, rfl⟩⟩
    · rintro σ1 H1 ⟨F1, v1, rfl, g1, hv1⟩
      have hE1 := hE.mono g1.ff
      have hisi : ∀ {F2 H2 : Hp} {v : V} {Q : VK}, Same F2 H2 → Got a K F2 t n v → Q (.bl (decide (101 < n * (nSteps t.rows + 1)))) H2 → rIsi K [v, .ty "str"] H2 Q := by
        intro F2 H2 v Q fh2 hv q
        rcases hv with ⟨h1, p1, tt, rr, rfl, he, _⟩ | ⟨h1, rfl⟩
        · obtain ⟨dx, l, xs, hp, _, _⟩ := he.ex
          rw [decide_eq_false (by omega)] at q
          exact rd_isi (.ty _) (.base (T.ty_Expression.at (fh2 _ _ hp))) (kit_blt (by decide +kernel) T.xe_str) q
        · rw [decide_eq_true h1] at q
          exact rd_isi (.ty _) (.base (.str _)) kit_str_str q
      have hlen : ∀ {F2 H2 : Hp} {v : V} {Q : VK} {E : XK}, Same F2 H2 → Got a K F2 t n v → n * (nSteps t.rows + 1) ≤ 101 → (∀ F' H', Grow [] F2 H2 F' H' → Q (.int (m : Nat)) H') → rLenO a.C_Expression (sp_Expression_len a K) E [v] H2 Q := by
        intro F2 H2 v Q E fh2 hv hc q
        rcases hv with ⟨h1, p1, tt, rr, rfl, he, hs, hl⟩ | ⟨h1, rfl⟩
        · have em : m = nSteps rr := by omega
          rw [em] at q
          exact ask_len fh2 he (by omega) q
        · omega
      refine rd_cut (fun σ' H' => σ' = [some (.ref p), some (.int (n : Nat)), some (.int (m : Nat)), some v1, none, none] ∧ H' = H1) ?_ ?_
      · lcg_off
        refine rd_ifT ?_
        lcg_off
        refine ifD (fun c => ?_) (fun c => ?_)
        · lcg_off
          refine hisi g1.fh hv1 ?_
          lcg_off
          refine ifF (decide_eq_false (by omega)) ?_
          lcg_off
          exact ⟨rfl, rfl⟩
        · lcg_off
          refine hisi g1.fh hv1 ?_
          rw [decide_eq_true (show 101 < n * (nSteps t.rows + 1) by omega)]
          lcg_off
          refine ifF rfl ?_
          rcases hv1 with ⟨h1, _⟩ | ⟨_, rfl⟩
          · omega
          lcg_off
          refine ifF (by decide +kernel) ?_
          lcg_off
          exact ⟨rfl, rfl⟩
      · rintro σ2 H2 ⟨rfl, rfl⟩
        lcg_off
        refine newL g1.fh fun F3 H3 l3 g3 nl3 hl3 => ?_
        refine ⟨l3, _, rfl, .inl (sqL_of (g3.fh _ _ hl3)), rfl, rfl, ?_⟩
        simp only [if_true]
        rw [in7 n (by omega)]
        have g13 := g1.trans g3
        have hv3 := hv1.mono g3.ff
        lcg_off
        refine ifN (fun c => ?_) (fun c => ?_)
        · lcg_off
          refine hisi g3.fh hv3 ?_
          lcg_off
          refine ifD (fun c2 => ?_) (fun c2 => ?_)
          · exact k F3 H3 g13
          · lcg_off
            refine hlen g3.fh hv3 (by omega) fun F4 H4 g4 => ?_
            lcg_off
            have e : decide (V.int (m : Int) = V.int (m : Int)) = true := decide_eq_true rfl
            rw [e]
            exact k F4 H4 (g13.trans g4)
        · lcg_off
          refine rd_cut (fun σ' H' => ∃ (F' : Hp) (v : V), σ' = [some (.ref p), some (.int (n : Nat)), some (.int (m : Nat)), some v1, none, some v] ∧ Grow [] F3 H3 F' H' ∧ Got a K F' t n v) ?_ ?_
          · lcg_off
            refine rd_callS ?_
            lcg_off
            refine ⟨F3, p, t, n, rfl, c, g3.fh, hE1.mono g3.ff, ho, hbig, hrl, fun hc F4 H4 v g4 ⟨p4, e4, h4⟩ => ?_, fun hc _ => ?_⟩
            · subst e4
              lcg_off
              refine ⟨F4, _, rfl, g4, got_rep hn1 ?_ h4⟩
              rcases hc with hc | hc
              · exact hc
              · exact hone hc
            · intro dd H' s' n' e'
              refine rd_wAs T.ex_tt ?_
              intro ax hax
              lcg_off
              refine rd_xf ?_
              lcg_off
              refine ⟨rfl, dd, _, .str "steps", rfl, e', by simp [List.lookup], ?_⟩
              lcg_off
              exact ⟨F3, _, rfl, Grow.ofSame g3.fh s', .inr ⟨hc, rfl⟩⟩
          · rintro σ4 H4 ⟨F4, v4, rfl, g4, hv4⟩
            lcg_off
            refine ifD (fun c5 => ?_) (fun c5 => ?_)
            · lcg_off
              refine hisi g4.fh hv4 ?_
              lcg_off
              rcases hv4 with ⟨h1, _⟩ | ⟨h1, rfl⟩
              · omega
              refine ifT (decide_eq_true h1) ?_
              lcg_off
              have e : decide (V.str (Str.ofString "steps") = V.str (Str.ofString "steps")) = true := decide_eq_true rfl
              rw [e]
              exact k F4 H4 (g13.trans g4)
            · lcg_off
              refine hisi g4.fh hv4 ?_
              lcg_off
              refine ifT (by rw [decide_eq_false (by omega)]; rfl) ?_
              lcg_off
              refine hlen g4.fh hv4 (by omega) fun F5 H5 g5 => ?_
              lcg_off
              refine ifT (decide_eq_true rfl) ?_
              lcg_off
              refine hlen g5.fh ((hv3.mono g4.ff).mono g5.ff) (by omega) fun F6 H6 g6 => ?_
              lcg_off
              have e : decide (V.int (m : Int) = V.int (m : Int)) = true := decide_eq_true rfl
              rw [e]
              exact k F6 H6 (g13.trans (g4.trans (g5.trans g6)))
end
end Ex

namespace Ex
open PySem L2 Hk
local macro_rules | `(tactic| array_mem_dec) => `(tactic| with_reducible first
  | assumption | exact upd_same
  | (apply upd_new; assumption; array_mem_dec)
  | (apply upd_old; tlg_ne; array_mem_dec)
  | (apply same_at; assumption; array_mem_dec))
local macro_rules | `(tactic| tlg_ne) => `(tactic| with_reducible first
  | assumption | (apply Ne.symm; assumption)
  | (apply ne_new; assumption; array_mem_dec) | (apply ne_new'; assumption; array_mem_dec)
  | (apply ne_of; assumption; assumption; (with_unfolding_all (intro z; cases z; done))))
local macro_rules | `(tactic| decreasing_trivial_pre_omega) => `(tactic| with_reducible first
  | assumption | (apply sqL_of; array_mem_dec) | (apply sqT_of; array_mem_dec)
  | (apply Same.seq; assumption; decreasing_trivial_pre_omega) | (apply sqT_same; assumption; decreasing_trivial_pre_omega)
  | (apply sqL_new; assumption; decreasing_trivial_pre_omega) | (apply sqL_upd; tlg_ne; decreasing_trivial_pre_omega))
local macro_rules | `(tactic| kpt_turns) => `(tactic| with_reducible first
  | assumption | exact Same.refl _ | (apply same_ext; kpt_turns; assumption) | (apply same_mut; kpt_turns; keq_hits) | (apply same_step; assumption; kpt_turns))
local macro_rules | `(tactic| keq_hits) => `(tactic| with_reducible first | assumption | (apply same_none; assumption; keq_hits))
local macro_rules | `(tactic| sizeOf_list_dec) => `(tactic| first | (with_reducible assumption) | (with_reducible_and_instances omega) | (with_unfolding_all decide))
local macro_rules | `(tactic| array_get_dec) => `(tactic| first | (with_reducible assumption) | (apply sz_of; (with_unfolding_all simp); done) | (apply sz_of; omega) | (apply sz_lt; (with_unfolding_all simp); done) | (apply sz_lt; omega))
local macro_rules | `(tactic| keq_rows) => `(tactic| with_reducible first
  | apply rd_asgN | apply rd_seq | apply rd_parA | apply rd_par3A | apply rd_par2 | apply rd_par3 | apply rd_m1 | apply rd_isStr | apply rd_cval | apply rd_asg | apply rd_gname | apply rd_op | (show tVar _ _ _ _; refine rd_var (by with_unfolding_all rfl) ?_) | apply rd_c | apply rd_I0
  | apply rd_cons | apply rd_nil | apply rd_cb | apply rd_test | apply rd_bl | apply rd_fld | apply rd_drop | apply rd_ret | apply rd_retN | apply rd_next
  | apply rd_ifS | apply rd_un | apply rd_B | apply rd_and | apply rd_or | apply rd_not | apply rd_andV | apply rd_orV | apply rd_notV | apply rd_if
  | apply rd_int | apply rd_abs | apply rd_max | apply rd_min | apply rd_strS | apply rd_U
  | apply rd_eqTx | apply rd_neTx | apply rd_inTx | apply rd_notInTx | apply rd_fmt | (show FmtK (.str (tx _)) _ _; refine rd_fmtT (by omega) ?_) | apply rd_jsC | apply rd_jsN | (show JsK _ (tx _) _ (.str (tx _)) _ _; refine rd_JsK (by first | omega | (simp; done) | (simp; omega)) ?_) | (show rAddStr (.str (tx _)) (.str (tx _)) _ _; refine rd_addT (by first | omega | (simp; done) | (simp; omega)) ?_) | (show rLenStr [.str (tx _)] _ _; refine rd_lenTx (by omega) ?_)
  | (show rEq _ _ _ _; refine rd_eq (by with_unfolding_all rfl) ?_) | (show rNe _ _ _ _; refine rd_ne (by with_unfolding_all rfl) ?_) | apply rd_isNone | apply rd_notNone
  | (show rIxL _ _ _ _ _; refine rd_ixL (by decreasing_trivial_pre_omega) (by with_unfolding_all rfl) ?_) | (show rIxT _ _ _ _ _; refine rd_ixT (by decreasing_trivial_pre_omega) (by with_unfolding_all rfl) ?_)
  | (show rLenSeq _ _ _ _; refine rd_lenL (by decreasing_trivial_pre_omega) ?_) | (show rLenSeq _ _ _ _; refine rd_lenT (by decreasing_trivial_pre_omega) ?_)
  | (show rI _ _ _ _ _ _; refine rd_mod (by sizeOf_list_dec) ?_) | (show rI _ _ _ _ _ _; refine rd_div (by sizeOf_list_dec) (by sizeOf_list_dec) ?_) | (show rI _ _ _ _ _ _; refine rd_mulR (by sizeOf_list_dec) (by sizeOf_list_dec) ?_) | (show rI _ _ _ _ _ _; refine rd_mulL (by sizeOf_list_dec) (by sizeOf_list_dec) ?_) | (show rI _ _ _ _ _ _; refine rd_pow (by sizeOf_list_dec) ?_)
  | (show rSetL _ _ _ _ _; refine rd_setL (by array_mem_dec) (by with_unfolding_all rfl) ?_)
  | apply rd_inSign | apply rd_notInSign | apply rd_tupK | apply rd_lstK | apply rd_sl | apply rd_noPart | apply rd_part | apply rd_isInt
  | apply rd_gsub | apply rd_gcons | apply rd_gnil | apply rd_call | apply rd_meth | apply rd_make | apply rd_smeth | apply rd_isC | apply rd_smethK | apply rd_cmeth | apply rd_cmethK
  | apply rd_bm | apply rd_bm0 | (show BmK _ _ _ _ _ _ _ _; refine rd_bmL (by array_mem_dec) ?_) | (show Bm0K _ _ _ _ _ _; refine rd_bm0L (by array_mem_dec) ?_) | apply rd_sfld | apply rd_aug | apply rd_rAdd | apply rd_brk | apply rd_cont
  | apply rd_for | apply rd_iList | (show IList _ _ _ _; refine rd_IList (by decreasing_trivial_pre_omega) ?_) | apply rd_iTup | (show ITup _ _ _ _; refine rd_ITup (by decreasing_trivial_pre_omega) ?_) | apply rd_iEnum | (show IEnum _ _ _ _; refine rd_IEnum (by decreasing_trivial_pre_omega) ?_) | apply rd_iRng1 | (show IRng1 _ _ _; refine rd_IRng1 (by sizeOf_list_dec) (by sizeOf_list_dec) ?_)
  | (show rLenStr _ _ _; refine rd_lenS (by array_get_dec) ?_) | (show rAddStr _ _ _ _; refine rd_addS (by array_get_dec) ?_) | (show rSlS _ _ _ _ _; refine rd_slS (by array_get_dec) ?_) | apply rd_lc | apply rd_yes | (show gTup _ _ _ _ _ _ _; refine rd_gtup (by decreasing_trivial_pre_omega) (by with_unfolding_all rfl) ?_) | (show tMakeL _ _ _ _ _ _ _ _; refine rd_makeL (by with_unfolding_all rfl) ?_))
local macro_rules | `(tactic| kas_types) => `(tactic| with_reducible first | apply rd_isi_int_int | apply rd_isi_int_bool | apply rd_isi_int_str | apply rd_isi_int_list | apply rd_isi_int_tuple | apply rd_isi_bool_int | apply rd_isi_bool_bool | apply rd_isi_bool_str | apply rd_isi_bool_list | apply rd_isi_bool_tuple | apply rd_isi_str_int | apply rd_isi_str_bool | apply rd_isi_str_str | apply rd_isi_str_list | apply rd_isi_str_tuple | (show rIsi _ _ _ _; refine rd_isi_list_int (by array_mem_dec) ?_) | (show rIsi _ _ _ _; refine rd_isi_list_bool (by array_mem_dec) ?_) | (show rIsi _ _ _ _; refine rd_isi_list_str (by array_mem_dec) ?_) | (show rIsi _ _ _ _; refine rd_isi_list_list (by array_mem_dec) ?_) | (show rIsi _ _ _ _; refine rd_isi_list_tuple (by array_mem_dec) ?_) | (show rIsi _ _ _ _; refine rd_isi_tuple_int (by array_mem_dec) ?_) | (show rIsi _ _ _ _; refine rd_isi_tuple_bool (by array_mem_dec) ?_) | (show rIsi _ _ _ _; refine rd_isi_tuple_str (by array_mem_dec) ?_) | (show rIsi _ _ _ _; refine rd_isi_tuple_list (by array_mem_dec) ?_) | (show rIsi _ _ _ _; refine rd_isi_tuple_tuple (by array_mem_dec) ?_) | apply rd_isi_NoneType_int | apply rd_isi_NoneType_bool | apply rd_isi_NoneType_str | apply rd_isi_NoneType_list | apply rd_isi_NoneType_tuple)
local macro_rules | `(tactic| lcg_src) => `(tactic| repeat keq_rows)

local macro_rules | `(tactic| lcg_off) => `(tactic| repeat keq_rows)
section
variable {P : Program} {w : World} {K : PySem.W.Frag} {mg : Str → Option Value} {base : Heap} {a : Ad}
theorem of_ints {F H : Hp} {b l : Addr} {ns : List Nat} {Q : VK} {E : XK} (hb : Bag F H b) (hl : F l = some (.lst (ns.map fun n => .int (n : Nat)))) (h0 : 0 < ns.length) (h1 : ns.length < 1000) (k : ∀ (x : Nat) H', x ∈ ns → Grow [b] F H F H' → Bag F H' b → Q (.int (x : Nat)) H') : sp_law_of K [.ref b, .ref l] H Q E := by
  refine ⟨F, b, l, _, rfl, hb, sqL_of hl, by simpa using h0, by simpa using h1, fun i x H' e g h => ?_⟩
  rw [List.getElem?_map] at e
  cases hx : ns[i]? with
  | none => rw [hx] at e; cases e
  | some y =>
    rw [hx] at e
    cases e
    exact k y H' (List.mem_of_getElem? hx) g h
theorem near_ok : ∀ q < 10, 10 ≤ (101 : Int) / ((q : Nat) + 1) ∧ (101 : Int) / ((q : Nat) + 1) ≤ 101 := by decide
def sp_law (K : PySem.W.Frag) : Sp := fun vs H Q _ => ∃ (sc : Addr) (ns : List Int), vs = [.ref sc] ∧ SqL K H sc (ns.map V.int) ∧ ns.length ≤ 63 ∧ ∀ H', Q (.bl true) H'
theorem ok_law (T : Txt K mg a) : FnOk P w K mg base CX0 8 a.f_law a.fd_law ["_law_script"]  (sp_law K) := by
  refine T.F_law.ok sc_law (fun vs H Q E h => ?_) (fun cdv A outer s H vs Q E hr h => ?_)
  · obtain ⟨_, _, rfl, _⟩ := h
    rfl
  · obtain ⟨sc, ns, rfl, hS, hl, k⟩ := h
    refine ⟨_, ((pss_cons (ps_for PassesOwn.never rfl (pi_range1 rfl T.n_range (pa_cons (pe_callB (call_maxI rfl) (by rfl) T.n_max (by decide +kernel) (pa_cons pe_int (pa_cons (pe_callB (call_minI rfl) (by rfl) T.n_min (by decide +kernel) (pa_cons pe_int (pa_cons (pe_callB call_lenSeq (by rfl) T.n_len (by decide +kernel) (pa_cons (pv 0) pa_nil)) pa_nil))) pa_nil))) pa_nil)) (pg_name (i := 1) sc_law.nd rfl (Or.inl rfl))
 (pss_cons (ps_set (i := 2) sc_law.nd rfl (Or.inl rfl) (pe_call (ok_law_bag T) (hr.mono (by decide)) rfl T.g_law_bag T.F_law_bag.kp T.b_law_bag .nil pass0 (pa_cons (pv 0) (pa_cons (pv 1) pa_nil))))
 (pss_one (ps_for PassesOwn.never rfl (pi_range1 rfl T.n_range (pa_cons pe_int pa_nil)) (pg_name (i := 3) sc_law.nd rfl (Or.inl rfl))
 (pss_cons (ps_set (i := 4) sc_law.nd rfl (Or.inl rfl) (pe_call (ok_law_take T) (hr.mono (by decide)) rfl T.g_law_take T.F_law_take.kp T.b_law_take .nil pass0 (pa_cons (pv 2) (pa_cons pe_int pa_nil))))
 (pss_cons (ps_set (i := 5) sc_law.nd rfl (Or.inl rfl) (pe_call (ok_law_of T) (hr.mono (by decide)) rfl T.g_law_of T.F_law_of.kp T.b_law_of .nil pass0 (pa_cons (pv 2) (pa_cons (pe_lst (pa_cons pe_int (pa_cons pe_int (pa_cons pe_int (pa_cons pe_int (pa_cons (pe_op op_add pe_int (pe_call (ok_law_take T) (hr.mono (by decide)) rfl T.g_law_take T.F_law_take.kp T.b_law_take .nil pass0 (pa_cons (pv 2) (pa_cons pe_int pa_nil)))) pa_nil)))))) pa_nil))))
 (pss_cons (ps_set (i := 6) sc_law.nd rfl (Or.inl rfl) (pe_callB (call_maxI rfl) (by rfl) T.n_max (by decide +kernel) (pa_cons pe_int (pa_cons (pe_callB (call_minI rfl) (by rfl) T.n_min (by decide +kernel) (pa_cons pe_int (pa_cons (pe_op op_sub (pe_op op_sub (pv 5) pe_int) (pv 4)) pa_nil))) pa_nil))))
 (pss_cons (ps_par (i := 7) (j := 8) (by rfl) sc_law.nd rfl rfl (by decide) rfl rfl (pa_cons (pe_call (ok_law_long T) hr rfl T.g_law_long T.F_law_long.kp T.b_law_long .nil pass0 (pa_cons (pv 2) (pa_cons (pv 4) pa_nil))) (pa_cons (pe_call (ok_law_long T) hr rfl T.g_law_long T.F_law_long.kp T.b_law_long .nil pass0 (pa_cons (pv 2) (pa_cons (pv 6) pa_nil))) pa_nil)) (by rfl))
 (pss_cons (ps_set (i := 9) sc_law.nd rfl (Or.inl rfl) (pe_callTy (call_strO (own_Expression_str T) (hr.mono (by decide))) (by rfl) T.n_str (by decide +kernel) (pa_cons (pv 7) pa_nil)))
 (pss_cons (ps_for PassesOwn.never rfl (pi_list (pe_lst (pa_cons pe_str (pa_cons pe_str (pa_cons pe_str (pa_cons pe_str (pa_cons pe_str (pa_cons pe_str (pa_cons pe_str (pa_cons pe_str (pa_cons pe_str pa_nil))))))))))) (pg_name (i := 10) sc_law.nd rfl (Or.inl rfl))
 (pss_cons (ps_if (pt_not (pt_val (pe_call (ok_law_joined_right T) (hr.mono (by decide)) rfl T.g_law_joined_right T.F_law_joined_right.kp T.b_law_joined_right .nil pass0 (pa_cons (pv 10) (pa_cons (pv 7) (pa_cons (pv 8) (pa_cons (pe_op op_add (pe_op op_add (pv 4) (pv 6)) pe_int) pa_nil)))))))
 (pss_one (ps_ret pe_bl))
 pss_nil)
 (pss_one (ps_if (pt_not (pt_val (pe_call (ok_law_joined_right T) (hr.mono (by decide)) rfl T.g_law_joined_right T.F_law_joined_right.kp T.b_law_joined_right .nil pass0 (pa_cons (pv 10) (pa_cons (pv 8) (pa_cons (pv 7) (pa_cons (pe_op op_add (pe_op op_add (pv 4) (pv 6)) pe_int) pa_nil)))))))
 (pss_one (ps_ret pe_bl))
 pss_nil))))
 (pss_cons (ps_for PassesOwn.never rfl (pi_list (pe_lst (pa_cons pe_str (pa_cons pe_str (pa_cons pe_str (pa_cons pe_str pa_nil)))))) (pg_name (i := 10) sc_law.nd rfl (Or.inl rfl))
 (pss_one (ps_if (PW.pt (pw_or (pt_not (pt_val (pe_call (ok_law_marked_right T) hr rfl T.g_law_marked_right T.F_law_marked_right.kp T.b_law_marked_right .nil pass0 (pa_cons (pv 10) (pa_cons (pv 7) (pa_cons (pe_op op_add (pv 4) pe_int) pa_nil)))))) (pw_or1 (pt_not (pt_val (pe_call (ok_law_marked_right T) hr rfl T.g_law_marked_right T.F_law_marked_right.kp T.b_law_marked_right .nil pass0 (pa_cons (pv 10) (pa_cons (pv 8) (pa_cons (pe_op op_add (pv 6) pe_int) pa_nil)))))))))
 (pss_one (ps_ret pe_bl))
 pss_nil)))
 (pss_cons (ps_set (i := 11) sc_law.nd rfl (Or.inl rfl) (pe_call (ok_law_long T) hr rfl T.g_law_long T.F_law_long.kp T.b_law_long .nil pass0 (pa_cons (pv 2) (pa_cons (pe_call (ok_law_take T) (hr.mono (by decide)) rfl T.g_law_take T.F_law_take.kp T.b_law_take .nil pass0 (pa_cons (pv 2) (pa_cons pe_int pa_nil))) pa_nil))))
 (pss_cons (ps_set (i := 12) sc_law.nd rfl (Or.inl rfl) (pe_op op_fdivW pe_int (pe_op op_add (pe_callB (call_lenO (own_Expression_len T) (hr.mono (by decide))) (by rfl) T.n_len (by decide +kernel) (pa_cons (pv 11) pa_nil)) pe_int)))
 (pss_cons (ps_for PassesOwn.never rfl (pi_list (pe_lst (pa_cons pe_int (pa_cons pe_int (pa_cons pe_int (pa_cons pe_int (pa_cons pe_int (pa_cons pe_int (pa_cons pe_int (pa_cons (pe_callB (call_minI rfl) (by rfl) T.n_min (by decide +kernel) (pa_cons pe_int (pa_cons (pv 12) pa_nil))) (pa_cons (pe_callB (call_minI rfl) (by rfl) T.n_min (by decide +kernel) (pa_cons pe_int (pa_cons (pe_op op_add (pv 12) pe_int) pa_nil))) (pa_cons (pe_op op_add pe_int (pe_call (ok_law_take T) (hr.mono (by decide)) rfl T.g_law_take T.F_law_take.kp T.b_law_take .nil pass0 (pa_cons (pv 2) (pa_cons pe_int pa_nil)))) pa_nil)))))))))))) (pg_name (i := 13) sc_law.nd rfl (Or.inl rfl))
 (pss_one (ps_if (pt_not (pt_val (pe_call (ok_law_times_right T) hr rfl T.g_law_times_right T.F_law_times_right.kp T.b_law_times_right .nil pass0 (pa_cons (pv 11) (pa_cons (pv 13) (pa_cons (pe_op op_sub (pe_op op_add (pe_op op_mul (pv 13) (pe_callB (call_lenO (own_Expression_len T) (hr.mono (by decide))) (by rfl) T.n_len (by decide +kernel) (pa_cons (pv 11) pa_nil))) (pv 13)) pe_int) pa_nil))))))
 (pss_one (ps_ret pe_bl))
 pss_nil)))
 (pss_one (ps_if (PW.pt (pw_or (pt_cmpR op_ne (pe_callTy (call_strO (own_Expression_str T) (hr.mono (by decide))) (by rfl) T.n_str (by decide +kernel) (pa_cons (pv 7) pa_nil)) (pv 9) (nomark _)) (pw_or (pt_cmpR op_ne (pe_callB (call_lenO (own_Expression_len T) (hr.mono (by decide))) (by rfl) T.n_len (by decide +kernel) (pa_cons (pv 7) pa_nil)) (pv 4) (nomark _)) (pw_or1 (pt_cmpR op_ne (pe_callB (call_lenO (own_Expression_len T) (hr.mono (by decide))) (by rfl) T.n_len (by decide +kernel) (pa_cons (pv 8) pa_nil)) (pv 6) (nomark _))))))
 (pss_one (ps_ret pe_bl))
 pss_nil))))))))))))))))
 (pss_one (ps_ret pe_bl)))), ?_⟩
    try simp only [cxK]
    lcg_off
    refine fk_range (fun i σ H' => ∃ u1 u2 u3 u4 u5 u6 u7 u8 u9 u10 u11 u12 u13, σ = [some (.ref sc), u1, u2, u3, u4, u5, u6, u7, u8, u9, u10, u11, u12, u13] ∧ Same H H') ⟨_, _, _, _, _, _, _, _, _, _, _, _, _, rfl, Same.refl _⟩ ?_ ?_
    · rintro i σ H' hi ⟨u1, u2, u3, u4, u5, u6, u7, u8, u9, u10, u11, u12, u13, rfl, s'⟩
      lcg_off
      refine bag_ok (s'.seq hS) (by omega) (by omega) hl fun b F0 H0 s0 hb0 => ?_
      lcg_off
      refine fk_range (fun j σ H' => ∃ (F' : Hp) (u3 u4 u5 u6 u7 u8 u9 u10 u11 u12 u13 : Option V), σ = [some (.ref sc), some (.int (i : Nat)), some (.ref b), u3, u4, u5, u6, u7, u8, u9, u10, u11, u12, u13] ∧ Same F0 F' ∧ Bag F' H' b) ⟨F0, _, _, _, _, _, _, _, _, _, _, _, rfl, Same.refl _, hb0⟩ ?_ ?_
      · rintro j σ H1 hj ⟨F1, u3, u4, u5, u6, u7, u8, u9, u10, u11, u12, u13, rfl, s1, hb1⟩
        lcg_off
        refine take_ok hb1 (by decide) (by decide) fun sz H2 hsz g2 hb2 => ?_
        lcg_off
        refine take_ok hb2 (by decide) (by decide) fun r3 H3 hr3 g3 hb3 => ?_
        lcg_off
        refine newL hb3.fh fun F4 H4 l4 g4 nl4 hl4 => ?_
        lcg_off
        refine of_ints (ns := [100, 101, 100, 101, 90 + r3]) (hb3.go0 g4) hl4 (by simp) (by simp) fun wh H5 hwh g5 hb5 => ?_
        have hwh2 : 90 ≤ wh ∧ wh ≤ 130 := by
          simp only [List.mem_cons, List.not_mem_nil, or_false] at hwh
          omega
        lcg_off
        have hmm : ∀ z : Int, z = (if (if (wh : Int) - 1 - (sz : Int) < 100 then (wh : Int) - 1 - (sz : Int) else 100) > 0 then (if (wh : Int) - 1 - (sz : Int) < 100 then (wh : Int) - 1 - (sz : Int) else 100) else 0) → ∃ mo : Nat, z = (mo : Nat) ∧ mo ≤ 100 := fun z hz => by
          refine ⟨z.toNat, ?_, ?_⟩
          · split at hz <;> (try split at hz) <;> omega
          · split at hz <;> (try split at hz) <;> omega
        obtain ⟨mo, hmo, hmo100⟩ := hmm _ rfl
        rw [hmo]
        refine ⟨F4, b, sz, rfl, hb5, by omega, fun F6 H6 p1 t1 g6 hb6 he1 hL1 => ?_⟩
        lcg_off
        refine ⟨F6, b, mo, rfl, hb6, hmo100, fun F7 H7 p2 t2 g7 hb7 he2 hL2 => ?_⟩
        have he1 := he1.mono g7.ff
        have hr1 := t1.rows_steps
        have hr2 := t2.rows_steps
        have hs1 := hL1.steps
        have hs2 := hL2.steps
        have ht1 := hL1.len
        have ht2 := hL2.len
        have s17 : Same F0 F7 := s1.trans (g4.ff.trans (g6.ff.trans g7.ff))
        clear g2 g3 g4 g5 g6 g7
        lcg_off
        refine ask_str hb7.fh he1 ?_
        lcg_off
        refine newL hb7.fh fun F8 H8 l8 g8 nl8 hl8 => ?_
        rw [nine_eq] at hl8
        have hb8 := hb7.go0 g8
        lcg_off
        refine rd_IList (sqL_of (g8.fh _ _ hl8)) ?_
        refine fk_list (xs := binaries.map wd) (fun j' σ H' => ∃ (F' : Hp) (u10 : Option V), σ = [some (.ref sc), some (.int (i : Nat)), some (.ref b), some (.int (j : Nat)), some (.int (sz : Nat)), some (.int (wh : Nat)), some (.int (mo : Nat)), some (.ref p1), some (.ref p2), some (.str (tx t1.text)), u10, u11, u12, u13] ∧ Grow [] F8 H8 F' H') ⟨F8, _, rfl, Grow.refl g8.fh⟩ (fun j' σ H' _ ⟨F', _, _, g'⟩ => sqL_of (g'.fh _ _ (g'.ff _ _ hl8))) ?_ ?_
        · rintro j' x σ H9 hx ⟨F9, u10, rfl, g9⟩
          obtain ⟨sg, hsg, rfl⟩ := List.mem_map.mp (List.mem_of_getElem? hx)
          unfold wd
          have he19 := he1.mono (g8.ff.trans g9.ff)
          have he29 := he2.mono (g8.ff.trans g9.ff)
          lcg_off
          refine ⟨F9, sg, p1, p2, t1, t2, sz + mo + 1, rfl, hsg, g9.fh, he19, he29, by omega, by omega, by omega, by omega, by omega, fun Fa Ha ga => ?_⟩
          lcg_off
          refine ifF rfl ?_
          lcg_off
          refine ⟨Fa, sg, p2, p1, t2, t1, sz + mo + 1, rfl, hsg, ga.fh, he29.mono ga.ff, he19.mono ga.ff, by omega, by omega, by omega, by omega, by omega, fun Fb Hb gb => ?_⟩
          lcg_off
          refine ifF rfl ?_
          lcg_off
          exact ⟨Fb, _, rfl, g9.trans (ga.trans gb)⟩
        · rintro σ H9 ⟨F9, u10, rfl, g9⟩
          have hb9 := hb8.go0 g9
          lcg_off
          refine newL hb9.fh fun Fa Ha la ga nla hla => ?_
          rw [un4_eq] at hla
          have hba := hb9.go0 ga
          lcg_off
          refine rd_IList (sqL_of (ga.fh _ _ hla)) ?_
          refine fk_list (xs := unaries.map wd) (fun j' σ H' => ∃ (F' : Hp) (u10 : Option V), σ = [some (.ref sc), some (.int (i : Nat)), some (.ref b), some (.int (j : Nat)), some (.int (sz : Nat)), some (.int (wh : Nat)), some (.int (mo : Nat)), some (.ref p1), some (.ref p2), some (.str (tx t1.text)), u10, u11, u12, u13] ∧ Grow [] Fa Ha F' H') ⟨Fa, _, rfl, Grow.refl ga.fh⟩ (fun j' σ H' _ ⟨F', _, _, g'⟩ => sqL_of (g'.fh _ _ (g'.ff _ _ hla))) ?_ ?_
          · rintro j' x σ Hb hx ⟨Fb, u10, rfl, gb⟩
            obtain ⟨sg, hsg, rfl⟩ := List.mem_map.mp (List.mem_of_getElem? hx)
            unfold wd
            have s7b := g8.ff.trans (g9.ff.trans (ga.ff.trans gb.ff))
            lcg_off
            refine ⟨Fb, sg, p1, t1, sz + 1, rfl, hsg, gb.fh, he1.mono s7b, by omega, by omega, hL1.pos, by omega, fun Fc Hc gc => ?_⟩
            lcg_off
            refine ifF rfl ?_
            lcg_off
            refine ⟨Fc, sg, p2, t2, mo + 1, rfl, hsg, gc.fh, (he2.mono s7b).mono gc.ff, by omega, by omega, hL2.pos, by omega, fun Fd Hd gd => ?_⟩
            lcg_off
            refine ifF rfl ?_
            lcg_off
            exact ⟨Fd, _, rfl, gb.trans (gc.trans gd)⟩
          · rintro σ Hb ⟨Fb, u10, rfl, gb⟩
            have hbb := hba.go0 gb
            have s7b := g8.ff.trans (g9.ff.trans (ga.ff.trans gb.ff))
            lcg_off
            refine take_ok hbb (by decide) (by decide) fun q H10 hq g10 hb10 => ?_
            lcg_off
            refine ⟨Fb, b, q, rfl, hb10, by omega, fun F11 H11 p3 t3 g11 hb11 he3 hL3 => ?_⟩
            have hr3' := t3.rows_steps
            have hs3 := hL3.steps
            have ht3 := hL3.len
            lcg_off
            refine ask_len hb11.fh he3 (by omega) fun F12 H12 g12 => ?_
            rw [hs3]
            have hb12 := hb11.go0 g12
            lcg_off
            refine take_ok hb12 (by decide) (by decide) fun y H13 hy g13 hb13 => ?_
            have hq9 : q < 10 := by omega
            obtain ⟨hN1, hN2⟩ := near_ok q hq9
            generalize (101 : Int) / ((q : Nat) + 1) = N at hN1 hN2
            lcg_off
            refine newL hb13.fh fun F14 H14 l14 g14 nl14 hl14 => ?_
            have hb14 := hb13.go0 g14
            have hall : ∀ (j' : Nat) x, ([V.int 1, .int 9, .int 10, .int 11, .int 50, .int 51, .int 64, .int (if N < 64 then N else 64), .int (if N + 1 < 64 then N + 1 else 64), .int (1 + (y : Nat))] : List V)[j']? = some x → ∃ n : Nat, x = .int (n : Nat) ∧ 1 ≤ n ∧ n ≤ 64 := by
              intro j' x hx
              have hm := List.mem_of_getElem? hx
              have nat : ∀ z : Int, 1 ≤ z → z ≤ 64 → ∃ n : Nat, V.int z = .int (n : Nat) ∧ 1 ≤ n ∧ n ≤ 64 := fun z h1 h2 => ⟨z.toNat, by rw [Int.toNat_of_nonneg (by omega)], by omega, by omega⟩
              simp only [List.mem_cons, List.not_mem_nil, or_false] at hm
              rcases hm with rfl | rfl | rfl | rfl | rfl | rfl | rfl | rfl | rfl | rfl
              · exact nat _ (by omega) (by omega)
              · exact nat _ (by omega) (by omega)
              · exact nat _ (by omega) (by omega)
              · exact nat _ (by omega) (by omega)
              · exact nat _ (by omega) (by omega)
              · exact nat _ (by omega) (by omega)
              · exact nat _ (by omega) (by omega)
              · exact nat _ (by split <;> omega) (by split <;> omega)
              · exact nat _ (by split <;> omega) (by split <;> omega)
              · exact nat _ (by omega) (by omega)
            lcg_off
            refine rd_IList (sqL_of (g14.fh _ _ hl14)) ?_
            refine fk_list (fun j' σ H' => ∃ (F' : Hp) (u13 : Option V), σ = [some (.ref sc), some (.int (i : Nat)), some (.ref b), some (.int (j : Nat)), some (.int (sz : Nat)), some (.int (wh : Nat)), some (.int (mo : Nat)), some (.ref p1), some (.ref p2), some (.str (tx t1.text)), u10, some (.ref p3), some (.int N), u13] ∧ Grow [] F14 H14 F' H') ⟨F14, _, rfl, Grow.refl g14.fh⟩ (fun j' σ H' _ ⟨F', _, _, g'⟩ => sqL_of (g'.fh _ _ (g'.ff _ _ hl14))) ?_ ?_
            · rintro j' x σ H15 hx ⟨F15, u13, rfl, g15⟩
              obtain ⟨n, rfl, hn1, hn2⟩ := hall j' x hx
              have he15 := he3.mono (g12.ff.trans (g14.ff.trans g15.ff))
              lcg_off
              refine ask_len g15.fh he15 (by omega) fun F16 H16 g16 => ?_
              rw [hs3]
              lcg_off
              have em : (n : Int) * (q : Nat) + (n : Nat) - 1 = ((n * (nSteps t3.rows + 1) - 1 : Nat) : Int) := by
                rw [hs3]
                have e1 : n * (q + 1) = n * q + n := by rw [Nat.mul_add, Nat.mul_one]
                have e2 : 1 ≤ n * q + n := by omega
                rw [e1, Int.natCast_sub e2, Int.natCast_add, Int.natCast_mul]
                rfl
              rw [em]
              refine ⟨F16, p3, t3, n, rfl, g16.fh, he15.mono g16.ff, hL3.ok, by omega, by omega, by omega, hn1, hn2, fun F17 H17 g17 => ?_⟩
              lcg_off
              refine ifF rfl ?_
              lcg_off
              exact ⟨F17, _, rfl, g15.trans (g16.trans g17)⟩
            · rintro σ H15 ⟨F15, u13, rfl, g15⟩
              have s11 : Same F11 F15 := g12.ff.trans (g14.ff.trans g15.ff)
              have sall : Same F7 F15 := s7b.trans (g11.ff.trans s11)
              have hb15 := hb14.go0 g15
              lcg_off
              refine ask_str g15.fh (he1.mono sall) ?_
              lcg_off
              refine ifF (by simp) ?_
              lcg_off
              refine ask_len g15.fh (he1.mono sall) (by omega) fun F16 H16 g16 => ?_
              rw [hs1]
              lcg_off
              refine ifF (by simp) ?_
              lcg_off
              refine ask_len g16.fh ((he2.mono sall).mono g16.ff) (by omega) fun F17 H17 g17 => ?_
              rw [hs2]
              lcg_off
              refine ifF (by simp) ?_
              lcg_off
              exact ⟨F17, _, _, _, _, _, _, _, _, _, _, _, rfl, s17.trans (sall.trans (g16.ff.trans g17.ff)), (hb15.go0 g16).go0 g17⟩
      · rintro σ H1 ⟨F1, u3, u4, u5, u6, u7, u8, u9, u10, u11, u12, u13, rfl, s1, hb1⟩
        lcg_off
        exact ⟨_, _, _, _, _, _, _, _, _, _, _, _, _, rfl, s'.trans (s0.trans (s1.trans hb1.fh))⟩
    · rintro σ H' ⟨u1, u2, u3, u4, u5, u6, u7, u8, u9, u10, u11, u12, u13, rfl, s'⟩
      lcg_off
      exact k H'
end
end Ex

section
open PySem PySem.W PyProof.Rows
set_option maxHeartbeats 0 in
open_top hd for PySem.Challenge.rw_heirsback_k33_too_many_steps
end
namespace Ex
open PySem L2 Hk
theorem all_mk {l : PySem.W.OpenLaw} {w : World} {K : PySem.W.Frag} {h : Heap} {mg : Str → Option Value} {fa : Addr} (X : K.In h) (G : h.Ns mainGlobals mg) (hfa : mg "law" = some (.ref fa))
    {f_BadExpression_init : Addr} {od_BadExpression_init an_BadExpression_init : Option Addr} {sl_BadExpression_init : Array (Option Value)} {oc_BadExpression_init kV_BadExpression_init dc_BadExpression_init pm_BadExpression_init cd_BadExpression_init ct_BadExpression_init : Value}
    {f_TooMany_init : Addr} {od_TooMany_init an_TooMany_init : Option Addr} {sl_TooMany_init : Array (Option Value)} {oc_TooMany_init kV_TooMany_init dc_TooMany_init pm_TooMany_init cd_TooMany_init ct_TooMany_init : Value}
    {f_Expression_init : Addr} {od_Expression_init an_Expression_init : Option Addr} {sl_Expression_init : Array (Option Value)} {oc_Expression_init kV_Expression_init dc_Expression_init pm_Expression_init cd_Expression_init ct_Expression_init : Value}
    {f_Expression_leaf : Addr} {od_Expression_leaf an_Expression_leaf : Option Addr} {sl_Expression_leaf : Array (Option Value)} {oc_Expression_leaf kV_Expression_leaf dc_Expression_leaf pm_Expression_leaf cd_Expression_leaf ct_Expression_leaf : Value}
    {p_Expression_leaf : Addr} {o_Expression_leaf : Value} {r_Expression_leaf : List Value}
    {f_Expression_asked : Addr} {od_Expression_asked an_Expression_asked : Option Addr} {sl_Expression_asked : Array (Option Value)} {oc_Expression_asked kV_Expression_asked dc_Expression_asked pm_Expression_asked cd_Expression_asked ct_Expression_asked : Value}
    {p_Expression_asked : Addr} {o_Expression_asked : Value} {r_Expression_asked : List Value}
    {f_Expression_read : Addr} {od_Expression_read an_Expression_read : Option Addr} {sl_Expression_read : Array (Option Value)} {oc_Expression_read kV_Expression_read dc_Expression_read pm_Expression_read cd_Expression_read ct_Expression_read : Value}
    {p_Expression_read : Addr} {r_Expression_read : List Value}
    {f_Expression_len : Addr} {od_Expression_len an_Expression_len : Option Addr} {sl_Expression_len : Array (Option Value)} {oc_Expression_len kV_Expression_len dc_Expression_len pm_Expression_len cd_Expression_len ct_Expression_len : Value}
    {f_Expression_str : Addr} {od_Expression_str an_Expression_str : Option Addr} {sl_Expression_str : Array (Option Value)} {oc_Expression_str kV_Expression_str dc_Expression_str pm_Expression_str cd_Expression_str ct_Expression_str : Value}
    {f_Expression_eq : Addr} {od_Expression_eq an_Expression_eq : Option Addr} {sl_Expression_eq : Array (Option Value)} {oc_Expression_eq kV_Expression_eq dc_Expression_eq pm_Expression_eq cd_Expression_eq ct_Expression_eq : Value}
    {f_Expression_add : Addr} {od_Expression_add an_Expression_add : Option Addr} {sl_Expression_add : Array (Option Value)} {oc_Expression_add kV_Expression_add dc_Expression_add pm_Expression_add cd_Expression_add ct_Expression_add : Value}
    {f_Expression_sub : Addr} {od_Expression_sub an_Expression_sub : Option Addr} {sl_Expression_sub : Array (Option Value)} {oc_Expression_sub kV_Expression_sub dc_Expression_sub pm_Expression_sub cd_Expression_sub ct_Expression_sub : Value}
    {f_Expression_mul : Addr} {od_Expression_mul an_Expression_mul : Option Addr} {sl_Expression_mul : Array (Option Value)} {oc_Expression_mul kV_Expression_mul dc_Expression_mul pm_Expression_mul cd_Expression_mul ct_Expression_mul : Value}
    {f_Expression_floordiv : Addr} {od_Expression_floordiv an_Expression_floordiv : Option Addr} {sl_Expression_floordiv : Array (Option Value)} {oc_Expression_floordiv kV_Expression_floordiv dc_Expression_floordiv pm_Expression_floordiv cd_Expression_floordiv ct_Expression_floordiv : Value}
    {f_Expression_and : Addr} {od_Expression_and an_Expression_and : Option Addr} {sl_Expression_and : Array (Option Value)} {oc_Expression_and kV_Expression_and dc_Expression_and pm_Expression_and cd_Expression_and ct_Expression_and : Value}
    {f_Expression_or : Addr} {od_Expression_or an_Expression_or : Option Addr} {sl_Expression_or : Array (Option Value)} {oc_Expression_or kV_Expression_or dc_Expression_or pm_Expression_or cd_Expression_or ct_Expression_or : Value}
    {f_Expression_xor : Addr} {od_Expression_xor an_Expression_xor : Option Addr} {sl_Expression_xor : Array (Option Value)} {oc_Expression_xor kV_Expression_xor dc_Expression_xor pm_Expression_xor cd_Expression_xor ct_Expression_xor : Value}
    {f_Expression_lshift : Addr} {od_Expression_lshift an_Expression_lshift : Option Addr} {sl_Expression_lshift : Array (Option Value)} {oc_Expression_lshift kV_Expression_lshift dc_Expression_lshift pm_Expression_lshift cd_Expression_lshift ct_Expression_lshift : Value}
    {f_Expression_rshift : Addr} {od_Expression_rshift an_Expression_rshift : Option Addr} {sl_Expression_rshift : Array (Option Value)} {oc_Expression_rshift kV_Expression_rshift dc_Expression_rshift pm_Expression_rshift cd_Expression_rshift ct_Expression_rshift : Value}
    {f_Expression_neg : Addr} {od_Expression_neg an_Expression_neg : Option Addr} {sl_Expression_neg : Array (Option Value)} {oc_Expression_neg kV_Expression_neg dc_Expression_neg pm_Expression_neg cd_Expression_neg ct_Expression_neg : Value}
    {f_Expression_pos : Addr} {od_Expression_pos an_Expression_pos : Option Addr} {sl_Expression_pos : Array (Option Value)} {oc_Expression_pos kV_Expression_pos dc_Expression_pos pm_Expression_pos cd_Expression_pos ct_Expression_pos : Value}
    {f_Expression_invert : Addr} {od_Expression_invert an_Expression_invert : Option Addr} {sl_Expression_invert : Array (Option Value)} {oc_Expression_invert kV_Expression_invert dc_Expression_invert pm_Expression_invert cd_Expression_invert ct_Expression_invert : Value}
    {f_Expression_abs : Addr} {od_Expression_abs an_Expression_abs : Option Addr} {sl_Expression_abs : Array (Option Value)} {oc_Expression_abs kV_Expression_abs dc_Expression_abs pm_Expression_abs cd_Expression_abs ct_Expression_abs : Value}
    {f_Expression_rmul : Addr} {od_Expression_rmul an_Expression_rmul : Option Addr} {sl_Expression_rmul : Array (Option Value)} {oc_Expression_rmul kV_Expression_rmul dc_Expression_rmul pm_Expression_rmul cd_Expression_rmul ct_Expression_rmul : Value}
    {f_Expression_pow : Addr} {od_Expression_pow an_Expression_pow : Option Addr} {sl_Expression_pow : Array (Option Value)} {oc_Expression_pow kV_Expression_pow dc_Expression_pow pm_Expression_pow cd_Expression_pow ct_Expression_pow : Value}
    {f_count_steps : Addr} {od_count_steps an_count_steps : Option Addr} {sl_count_steps : Array (Option Value)} {oc_count_steps kV_count_steps dc_count_steps pm_count_steps cd_count_steps ct_count_steps : Value}
    {f_binary : Addr} {od_binary an_binary : Option Addr} {sl_binary : Array (Option Value)} {oc_binary kV_binary dc_binary pm_binary cd_binary ct_binary : Value}
    {f_unary : Addr} {od_unary an_unary : Option Addr} {sl_unary : Array (Option Value)} {oc_unary kV_unary dc_unary pm_unary cd_unary ct_unary : Value}
    {f_repeated : Addr} {od_repeated an_repeated : Option Addr} {sl_repeated : Array (Option Value)} {oc_repeated kV_repeated dc_repeated pm_repeated cd_repeated ct_repeated : Value}
    {f_Reader_init : Addr} {od_Reader_init an_Reader_init : Option Addr} {sl_Reader_init : Array (Option Value)} {oc_Reader_init kV_Reader_init dc_Reader_init pm_Reader_init cd_Reader_init ct_Reader_init : Value}
    {f_Reader_whole : Addr} {od_Reader_whole an_Reader_whole : Option Addr} {sl_Reader_whole : Array (Option Value)} {oc_Reader_whole kV_Reader_whole dc_Reader_whole pm_Reader_whole cd_Reader_whole ct_Reader_whole : Value}
    {f_Reader_here : Addr} {od_Reader_here an_Reader_here : Option Addr} {sl_Reader_here : Array (Option Value)} {oc_Reader_here kV_Reader_here dc_Reader_here pm_Reader_here cd_Reader_here ct_Reader_here : Value}
    {f_Reader_skip : Addr} {od_Reader_skip an_Reader_skip : Option Addr} {sl_Reader_skip : Array (Option Value)} {oc_Reader_skip kV_Reader_skip dc_Reader_skip pm_Reader_skip cd_Reader_skip ct_Reader_skip : Value}
    {f_Reader_letters : Addr} {od_Reader_letters an_Reader_letters : Option Addr} {sl_Reader_letters : Array (Option Value)} {oc_Reader_letters kV_Reader_letters dc_Reader_letters pm_Reader_letters cd_Reader_letters ct_Reader_letters : Value}
    {f_Reader_go_in : Addr} {od_Reader_go_in an_Reader_go_in : Option Addr} {sl_Reader_go_in : Array (Option Value)} {oc_Reader_go_in kV_Reader_go_in dc_Reader_go_in pm_Reader_go_in cd_Reader_go_in ct_Reader_go_in : Value}
    {f_Reader_is_opened : Addr} {od_Reader_is_opened an_Reader_is_opened : Option Addr} {sl_Reader_is_opened : Array (Option Value)} {oc_Reader_is_opened kV_Reader_is_opened dc_Reader_is_opened pm_Reader_is_opened cd_Reader_is_opened ct_Reader_is_opened : Value}
    {f_Reader_class_name : Addr} {od_Reader_class_name an_Reader_class_name : Option Addr} {sl_Reader_class_name : Array (Option Value)} {oc_Reader_class_name kV_Reader_class_name dc_Reader_class_name pm_Reader_class_name cd_Reader_class_name ct_Reader_class_name : Value}
    {f_Reader_read_request : Addr} {od_Reader_read_request an_Reader_read_request : Option Addr} {sl_Reader_read_request : Array (Option Value)} {oc_Reader_read_request kV_Reader_read_request dc_Reader_read_request pm_Reader_read_request cd_Reader_read_request ct_Reader_read_request : Value}
    {f_Reader_close : Addr} {od_Reader_close an_Reader_close : Option Addr} {sl_Reader_close : Array (Option Value)} {oc_Reader_close kV_Reader_close dc_Reader_close pm_Reader_close cd_Reader_close ct_Reader_close : Value}
    {f_Reader_read_sign : Addr} {od_Reader_read_sign an_Reader_read_sign : Option Addr} {sl_Reader_read_sign : Array (Option Value)} {oc_Reader_read_sign kV_Reader_read_sign dc_Reader_read_sign pm_Reader_read_sign cd_Reader_read_sign ct_Reader_read_sign : Value}
    {f_law_bag : Addr} {od_law_bag an_law_bag : Option Addr} {sl_law_bag : Array (Option Value)} {oc_law_bag kV_law_bag dc_law_bag pm_law_bag cd_law_bag ct_law_bag : Value}
    {f_law_take : Addr} {od_law_take an_law_take : Option Addr} {sl_law_take : Array (Option Value)} {oc_law_take kV_law_take dc_law_take pm_law_take cd_law_take ct_law_take : Value}
    {f_law_of : Addr} {od_law_of an_law_of : Option Addr} {sl_law_of : Array (Option Value)} {oc_law_of kV_law_of dc_law_of pm_law_of cd_law_of ct_law_of : Value}
    {f_law_joined : Addr} {od_law_joined an_law_joined : Option Addr} {sl_law_joined : Array (Option Value)} {oc_law_joined kV_law_joined dc_law_joined pm_law_joined cd_law_joined ct_law_joined : Value}
    {f_law_marked : Addr} {od_law_marked an_law_marked : Option Addr} {sl_law_marked : Array (Option Value)} {oc_law_marked kV_law_marked dc_law_marked pm_law_marked cd_law_marked ct_law_marked : Value}
    {f_law_long : Addr} {od_law_long an_law_long : Option Addr} {sl_law_long : Array (Option Value)} {oc_law_long kV_law_long dc_law_long pm_law_long cd_law_long ct_law_long : Value}
    {f_law_joined_right : Addr} {od_law_joined_right an_law_joined_right : Option Addr} {sl_law_joined_right : Array (Option Value)} {oc_law_joined_right kV_law_joined_right dc_law_joined_right pm_law_joined_right cd_law_joined_right ct_law_joined_right : Value}
    {f_law_marked_right : Addr} {od_law_marked_right an_law_marked_right : Option Addr} {sl_law_marked_right : Array (Option Value)} {oc_law_marked_right kV_law_marked_right dc_law_marked_right pm_law_marked_right cd_law_marked_right ct_law_marked_right : Value}
    {f_law_power : Addr} {od_law_power an_law_power : Option Addr} {sl_law_power : Array (Option Value)} {oc_law_power kV_law_power dc_law_power pm_law_power cd_law_power ct_law_power : Value}
    {f_law_times_right : Addr} {od_law_times_right an_law_times_right : Option Addr} {sl_law_times_right : Array (Option Value)} {oc_law_times_right kV_law_times_right dc_law_times_right pm_law_times_right cd_law_times_right ct_law_times_right : Value}
    {f_law : Addr} {od_law an_law : Option Addr} {sl_law : Array (Option Value)} {oc_law kV_law dc_law pm_law cd_law ct_law : Value}
    {C_Expression : Addr}
    {C_Reader : Addr}
    {C_BadExpression : Addr}
    {nm_BadExpression q_BadExpression : Str} {N_BadExpression : Addr} {bs_BadExpression bm_BadExpression : List Value} {sn_BadExpression : List Str} {sub_BadExpression : List Value} {ab_BadExpression : Bool} {col_BadExpression : Option Bool} {dd_BadExpression : Option Addr} {k0_BadExpression k1_BadExpression k2_BadExpression k3_BadExpression k5_BadExpression : Option Value}
    {C_TooMany : Addr}
    {nm_TooMany q_TooMany : Str} {N_TooMany : Addr} {bs_TooMany bm_TooMany : List Value} {sn_TooMany : List Str} {sub_TooMany : List Value} {ab_TooMany : Bool} {col_TooMany : Option Bool} {dd_TooMany : Option Addr} {k0_TooMany k1_TooMany k2_TooMany k3_TooMany k5_TooMany : Option Value}
    {C_HeirsbackError : Addr}
    {t_MOST : Tok}
    {t_SMALL : Tok}
    {t_CAPITAL : Tok}
    {t_LONGEST : Tok}
    {t_LEAF : Tok}
    {t_ASKED : Tok}
    {ad_UNARY_SIGNS : Addr} {od_UNARY_SIGNS : Option Addr} {n_UNARY_SIGNS : Nat} {sl_UNARY_SIGNS : Array (Option Value)} {t0_UNARY_SIGNS : Tok} {t1_UNARY_SIGNS : Tok} {t2_UNARY_SIGNS : Tok} {t3_UNARY_SIGNS : Tok}
    {t_DONE : Tok}
    (a_C_Expression : PySem.W.nsIn K mainGlobals "Expression" = some (some (.ref C_Expression)))
    (a_C_Reader : PySem.W.nsIn K mainGlobals "Reader" = some (some (.ref C_Reader)))
    (a_C_BadExpression : PySem.W.nsIn K mainGlobals "BadExpression" = some (some (.ref C_BadExpression)))
    (a_C_TooMany : PySem.W.nsIn K mainGlobals "TooMany" = some (some (.ref C_TooMany)))
    (a_C_HeirsbackError : PySem.W.nsIn K mainGlobals "HeirsbackError" = some (some (.ref C_HeirsbackError)))
    (a_BadExpression_init : PySem.W.findIn K (.ref C_BadExpression) "__init__" = some (some (.ref f_BadExpression_init)))
    (i_BadExpression_init : PySem.W.isFn K (.ref f_BadExpression_init) = true)
    (l_BadExpression_init : K.lookup f_BadExpression_init = some ⟨oc_BadExpression_init, od_BadExpression_init, .func (PySem.W.fnOf "__init__" "BadExpression.__init__" (defArgs s_BadExpression_init) (defBody s_BadExpression_init) (defScope s_BadExpression_init) .none kV_BadExpression_init dc_BadExpression_init pm_BadExpression_init an_BadExpression_init cd_BadExpression_init ct_BadExpression_init), sl_BadExpression_init⟩)
    (c_BadExpression_init : PySem.W.codeIn K cd_BadExpression_init "BadExpression.__init__" = true)
    (k_BadExpression_init : PySem.W.keepIn K (.ref f_BadExpression_init) = true)
    (a_TooMany_init : PySem.W.findIn K (.ref C_TooMany) "__init__" = some (some (.ref f_TooMany_init)))
    (i_TooMany_init : PySem.W.isFn K (.ref f_TooMany_init) = true)
    (l_TooMany_init : K.lookup f_TooMany_init = some ⟨oc_TooMany_init, od_TooMany_init, .func (PySem.W.fnOf "__init__" "TooMany.__init__" (defArgs s_TooMany_init) (defBody s_TooMany_init) (defScope s_TooMany_init) .none kV_TooMany_init dc_TooMany_init pm_TooMany_init an_TooMany_init cd_TooMany_init ct_TooMany_init), sl_TooMany_init⟩)
    (c_TooMany_init : PySem.W.codeIn K cd_TooMany_init "TooMany.__init__" = true)
    (k_TooMany_init : PySem.W.keepIn K (.ref f_TooMany_init) = true)
    (a_Expression_init : PySem.W.findIn K (.ref C_Expression) "__init__" = some (some (.ref f_Expression_init)))
    (i_Expression_init : PySem.W.isFn K (.ref f_Expression_init) = true)
    (l_Expression_init : K.lookup f_Expression_init = some ⟨oc_Expression_init, od_Expression_init, .func (PySem.W.fnOf "__init__" "Expression.__init__" (defArgs s_Expression_init) (defBody s_Expression_init) (defScope s_Expression_init) .none kV_Expression_init dc_Expression_init pm_Expression_init an_Expression_init cd_Expression_init ct_Expression_init), sl_Expression_init⟩)
    (c_Expression_init : PySem.W.codeIn K cd_Expression_init "Expression.__init__" = true)
    (k_Expression_init : PySem.W.keepIn K (.ref f_Expression_init) = true)
    (a_Expression_leaf : PySem.W.findCls K (.ref C_Expression) (.type "type") "leaf" = some (.get (.builtin "staticmethod.__get__") (.ref p_Expression_leaf) o_Expression_leaf (.ref C_Expression)))
    (rc_Expression_leaf : PySem.W.recIn K p_Expression_leaf "staticmethod" = some (.ref f_Expression_leaf :: r_Expression_leaf))
    (l_Expression_leaf : K.lookup f_Expression_leaf = some ⟨oc_Expression_leaf, od_Expression_leaf, .func (PySem.W.fnOf "leaf" "Expression.leaf" (defArgs s_Expression_leaf) (defBody s_Expression_leaf) (defScope s_Expression_leaf) .none kV_Expression_leaf dc_Expression_leaf pm_Expression_leaf an_Expression_leaf cd_Expression_leaf ct_Expression_leaf), sl_Expression_leaf⟩)
    (c_Expression_leaf : PySem.W.codeIn K cd_Expression_leaf "Expression.leaf" = true)
    (k_Expression_leaf : PySem.W.keepIn K (.ref f_Expression_leaf) = true)
    (a_Expression_asked : PySem.W.findCls K (.ref C_Expression) (.type "type") "asked" = some (.get (.builtin "staticmethod.__get__") (.ref p_Expression_asked) o_Expression_asked (.ref C_Expression)))
    (rc_Expression_asked : PySem.W.recIn K p_Expression_asked "staticmethod" = some (.ref f_Expression_asked :: r_Expression_asked))
    (l_Expression_asked : K.lookup f_Expression_asked = some ⟨oc_Expression_asked, od_Expression_asked, .func (PySem.W.fnOf "asked" "Expression.asked" (defArgs s_Expression_asked) (defBody s_Expression_asked) (defScope s_Expression_asked) .none kV_Expression_asked dc_Expression_asked pm_Expression_asked an_Expression_asked cd_Expression_asked ct_Expression_asked), sl_Expression_asked⟩)
    (c_Expression_asked : PySem.W.codeIn K cd_Expression_asked "Expression.asked" = true)
    (k_Expression_asked : PySem.W.keepIn K (.ref f_Expression_asked) = true)
    (a_Expression_read : PySem.W.findCls K (.ref C_Expression) (.type "type") "read" = some (.get (.builtin "classmethod.__get__") (.ref p_Expression_read) .none (.ref C_Expression)))
    (rc_Expression_read : PySem.W.recIn K p_Expression_read "classmethod" = some (.ref f_Expression_read :: r_Expression_read))
    (fi_Expression_read : PySem.W.fnIn K f_Expression_read = true)
    (l_Expression_read : K.lookup f_Expression_read = some ⟨oc_Expression_read, od_Expression_read, .func (PySem.W.fnOf "read" "Expression.read" (defArgs s_Expression_read) (defBody s_Expression_read) (defScope s_Expression_read) .none kV_Expression_read dc_Expression_read pm_Expression_read an_Expression_read cd_Expression_read ct_Expression_read), sl_Expression_read⟩)
    (c_Expression_read : PySem.W.codeIn K cd_Expression_read "Expression.read" = true)
    (k_Expression_read : PySem.W.keepIn K (.ref f_Expression_read) = true)
    (a_Expression_len : PySem.W.findIn K (.ref C_Expression) "__len__" = some (some (.ref f_Expression_len)))
    (i_Expression_len : PySem.W.isFn K (.ref f_Expression_len) = true)
    (l_Expression_len : K.lookup f_Expression_len = some ⟨oc_Expression_len, od_Expression_len, .func (PySem.W.fnOf "__len__" "Expression.__len__" (defArgs s_Expression_len) (defBody s_Expression_len) (defScope s_Expression_len) .none kV_Expression_len dc_Expression_len pm_Expression_len an_Expression_len cd_Expression_len ct_Expression_len), sl_Expression_len⟩)
    (c_Expression_len : PySem.W.codeIn K cd_Expression_len "Expression.__len__" = true)
    (k_Expression_len : PySem.W.keepIn K (.ref f_Expression_len) = true)
    (a_Expression_str : PySem.W.findIn K (.ref C_Expression) "__str__" = some (some (.ref f_Expression_str)))
    (i_Expression_str : PySem.W.isFn K (.ref f_Expression_str) = true)
    (l_Expression_str : K.lookup f_Expression_str = some ⟨oc_Expression_str, od_Expression_str, .func (PySem.W.fnOf "__str__" "Expression.__str__" (defArgs s_Expression_str) (defBody s_Expression_str) (defScope s_Expression_str) .none kV_Expression_str dc_Expression_str pm_Expression_str an_Expression_str cd_Expression_str ct_Expression_str), sl_Expression_str⟩)
    (c_Expression_str : PySem.W.codeIn K cd_Expression_str "Expression.__str__" = true)
    (k_Expression_str : PySem.W.keepIn K (.ref f_Expression_str) = true)
    (a_Expression_eq : PySem.W.findIn K (.ref C_Expression) "__eq__" = some (some (.ref f_Expression_eq)))
    (i_Expression_eq : PySem.W.isFn K (.ref f_Expression_eq) = true)
    (l_Expression_eq : K.lookup f_Expression_eq = some ⟨oc_Expression_eq, od_Expression_eq, .func (PySem.W.fnOf "__eq__" "Expression.__eq__" (defArgs s_Expression_eq) (defBody s_Expression_eq) (defScope s_Expression_eq) .none kV_Expression_eq dc_Expression_eq pm_Expression_eq an_Expression_eq cd_Expression_eq ct_Expression_eq), sl_Expression_eq⟩)
    (c_Expression_eq : PySem.W.codeIn K cd_Expression_eq "Expression.__eq__" = true)
    (k_Expression_eq : PySem.W.keepIn K (.ref f_Expression_eq) = true)
    (a_Expression_add : PySem.W.findIn K (.ref C_Expression) "__add__" = some (some (.ref f_Expression_add)))
    (i_Expression_add : PySem.W.isFn K (.ref f_Expression_add) = true)
    (l_Expression_add : K.lookup f_Expression_add = some ⟨oc_Expression_add, od_Expression_add, .func (PySem.W.fnOf "__add__" "Expression.__add__" (defArgs s_Expression_add) (defBody s_Expression_add) (defScope s_Expression_add) .none kV_Expression_add dc_Expression_add pm_Expression_add an_Expression_add cd_Expression_add ct_Expression_add), sl_Expression_add⟩)
    (c_Expression_add : PySem.W.codeIn K cd_Expression_add "Expression.__add__" = true)
    (k_Expression_add : PySem.W.keepIn K (.ref f_Expression_add) = true)
    (a_Expression_sub : PySem.W.findIn K (.ref C_Expression) "__sub__" = some (some (.ref f_Expression_sub)))
    (i_Expression_sub : PySem.W.isFn K (.ref f_Expression_sub) = true)
    (l_Expression_sub : K.lookup f_Expression_sub = some ⟨oc_Expression_sub, od_Expression_sub, .func (PySem.W.fnOf "__sub__" "Expression.__sub__" (defArgs s_Expression_sub) (defBody s_Expression_sub) (defScope s_Expression_sub) .none kV_Expression_sub dc_Expression_sub pm_Expression_sub an_Expression_sub cd_Expression_sub ct_Expression_sub), sl_Expression_sub⟩)
    (c_Expression_sub : PySem.W.codeIn K cd_Expression_sub "Expression.__sub__" = true)
    (k_Expression_sub : PySem.W.keepIn K (.ref f_Expression_sub) = true)
    (a_Expression_mul : PySem.W.findIn K (.ref C_Expression) "__mul__" = some (some (.ref f_Expression_mul)))
    (i_Expression_mul : PySem.W.isFn K (.ref f_Expression_mul) = true)
    (l_Expression_mul : K.lookup f_Expression_mul = some ⟨oc_Expression_mul, od_Expression_mul, .func (PySem.W.fnOf "__mul__" "Expression.__mul__" (defArgs s_Expression_mul) (defBody s_Expression_mul) (defScope s_Expression_mul) .none kV_Expression_mul dc_Expression_mul pm_Expression_mul an_Expression_mul cd_Expression_mul ct_Expression_mul), sl_Expression_mul⟩)
    (c_Expression_mul : PySem.W.codeIn K cd_Expression_mul "Expression.__mul__" = true)
    (k_Expression_mul : PySem.W.keepIn K (.ref f_Expression_mul) = true)
    (a_Expression_floordiv : PySem.W.findIn K (.ref C_Expression) "__floordiv__" = some (some (.ref f_Expression_floordiv)))
    (i_Expression_floordiv : PySem.W.isFn K (.ref f_Expression_floordiv) = true)
    (l_Expression_floordiv : K.lookup f_Expression_floordiv = some ⟨oc_Expression_floordiv, od_Expression_floordiv, .func (PySem.W.fnOf "__floordiv__" "Expression.__floordiv__" (defArgs s_Expression_floordiv) (defBody s_Expression_floordiv) (defScope s_Expression_floordiv) .none kV_Expression_floordiv dc_Expression_floordiv pm_Expression_floordiv an_Expression_floordiv cd_Expression_floordiv ct_Expression_floordiv), sl_Expression_floordiv⟩)
    (c_Expression_floordiv : PySem.W.codeIn K cd_Expression_floordiv "Expression.__floordiv__" = true)
    (k_Expression_floordiv : PySem.W.keepIn K (.ref f_Expression_floordiv) = true)
    (a_Expression_and : PySem.W.findIn K (.ref C_Expression) "__and__" = some (some (.ref f_Expression_and)))
    (i_Expression_and : PySem.W.isFn K (.ref f_Expression_and) = true)
    (l_Expression_and : K.lookup f_Expression_and = some ⟨oc_Expression_and, od_Expression_and, .func (PySem.W.fnOf "__and__" "Expression.__and__" (defArgs s_Expression_and) (defBody s_Expression_and) (defScope s_Expression_and) .none kV_Expression_and dc_Expression_and pm_Expression_and an_Expression_and cd_Expression_and ct_Expression_and), sl_Expression_and⟩)
    (c_Expression_and : PySem.W.codeIn K cd_Expression_and "Expression.__and__" = true)
    (k_Expression_and : PySem.W.keepIn K (.ref f_Expression_and) = true)
    (a_Expression_or : PySem.W.findIn K (.ref C_Expression) "__or__" = some (some (.ref f_Expression_or)))
    (i_Expression_or : PySem.W.isFn K (.ref f_Expression_or) = true)
    (l_Expression_or : K.lookup f_Expression_or = some ⟨oc_Expression_or, od_Expression_or, .func (PySem.W.fnOf "__or__" "Expression.__or__" (defArgs s_Expression_or) (defBody s_Expression_or) (defScope s_Expression_or) .none kV_Expression_or dc_Expression_or pm_Expression_or an_Expression_or cd_Expression_or ct_Expression_or), sl_Expression_or⟩)
    (c_Expression_or : PySem.W.codeIn K cd_Expression_or "Expression.__or__" = true)
    (k_Expression_or : PySem.W.keepIn K (.ref f_Expression_or) = true)
    (a_Expression_xor : PySem.W.findIn K (.ref C_Expression) "__xor__" = some (some (.ref f_Expression_xor)))
    (i_Expression_xor : PySem.W.isFn K (.ref f_Expression_xor) = true)
    (l_Expression_xor : K.lookup f_Expression_xor = some ⟨oc_Expression_xor, od_Expression_xor, .func (PySem.W.fnOf "__xor__" "Expression.__xor__" (defArgs s_Expression_xor) (defBody s_Expression_xor) (defScope s_Expression_xor) .none kV_Expression_xor dc_Expression_xor pm_Expression_xor an_Expression_xor cd_Expression_xor ct_Expression_xor), sl_Expression_xor⟩)
    (c_Expression_xor : PySem.W.codeIn K cd_Expression_xor "Expression.__xor__" = true)
    (k_Expression_xor : PySem.W.keepIn K (.ref f_Expression_xor) = true)
    (a_Expression_lshift : PySem.W.findIn K (.ref C_Expression) "__lshift__" = some (some (.ref f_Expression_lshift)))
    (i_Expression_lshift : PySem.W.isFn K (.ref f_Expression_lshift) = true)
    (l_Expression_lshift : K.lookup f_Expression_lshift = some ⟨oc_Expression_lshift, od_Expression_lshift, .func (PySem.W.fnOf "__lshift__" "Expression.__lshift__" (defArgs s_Expression_lshift) (defBody s_Expression_lshift) (defScope s_Expression_lshift) .none kV_Expression_lshift dc_Expression_lshift pm_Expression_lshift an_Expression_lshift cd_Expression_lshift ct_Expression_lshift), sl_Expression_lshift⟩)
    (c_Expression_lshift : PySem.W.codeIn K cd_Expression_lshift "Expression.__lshift__" = true)
    (k_Expression_lshift : PySem.W.keepIn K (.ref f_Expression_lshift) = true)
    (a_Expression_rshift : PySem.W.findIn K (.ref C_Expression) "__rshift__" = some (some (.ref f_Expression_rshift)))
    (i_Expression_rshift : PySem.W.isFn K (.ref f_Expression_rshift) = true)
    (l_Expression_rshift : K.lookup f_Expression_rshift = some ⟨oc_Expression_rshift, od_Expression_rshift, .func (PySem.W.fnOf "__rshift__" "Expression.__rshift__" (defArgs s_Expression_rshift) (defBody s_Expression_rshift) (defScope s_Expression_rshift) .none kV_Expression_rshift dc_Expression_rshift pm_Expression_rshift an_Expression_rshift cd_Expression_rshift ct_Expression_rshift), sl_Expression_rshift⟩)
    (c_Expression_rshift : PySem.W.codeIn K cd_Expression_rshift "Expression.__rshift__" = true)
    (k_Expression_rshift : PySem.W.keepIn K (.ref f_Expression_rshift) = true)
    (a_Expression_neg : PySem.W.findIn K (.ref C_Expression) "__neg__" = some (some (.ref f_Expression_neg)))
    (i_Expression_neg : PySem.W.isFn K (.ref f_Expression_neg) = true)
    (l_Expression_neg : K.lookup f_Expression_neg = some ⟨oc_Expression_neg, od_Expression_neg, .func (PySem.W.fnOf "__neg__" "Expression.__neg__" (defArgs s_Expression_neg) (defBody s_Expression_neg) (defScope s_Expression_neg) .none kV_Expression_neg dc_Expression_neg pm_Expression_neg an_Expression_neg cd_Expression_neg ct_Expression_neg), sl_Expression_neg⟩)
    (c_Expression_neg : PySem.W.codeIn K cd_Expression_neg "Expression.__neg__" = true)
    (k_Expression_neg : PySem.W.keepIn K (.ref f_Expression_neg) = true)
    (a_Expression_pos : PySem.W.findIn K (.ref C_Expression) "__pos__" = some (some (.ref f_Expression_pos)))
    (i_Expression_pos : PySem.W.isFn K (.ref f_Expression_pos) = true)
    (l_Expression_pos : K.lookup f_Expression_pos = some ⟨oc_Expression_pos, od_Expression_pos, .func (PySem.W.fnOf "__pos__" "Expression.__pos__" (defArgs s_Expression_pos) (defBody s_Expression_pos) (defScope s_Expression_pos) .none kV_Expression_pos dc_Expression_pos pm_Expression_pos an_Expression_pos cd_Expression_pos ct_Expression_pos), sl_Expression_pos⟩)
    (c_Expression_pos : PySem.W.codeIn K cd_Expression_pos "Expression.__pos__" = true)
    (k_Expression_pos : PySem.W.keepIn K (.ref f_Expression_pos) = true)
    (a_Expression_invert : PySem.W.findIn K (.ref C_Expression) "__invert__" = some (some (.ref f_Expression_invert)))
    (i_Expression_invert : PySem.W.isFn K (.ref f_Expression_invert) = true)
    (l_Expression_invert : K.lookup f_Expression_invert = some ⟨oc_Expression_invert, od_Expression_invert, .func (PySem.W.fnOf "__invert__" "Expression.__invert__" (defArgs s_Expression_invert) (defBody s_Expression_invert) (defScope s_Expression_invert) .none kV_Expression_invert dc_Expression_invert pm_Expression_invert an_Expression_invert cd_Expression_invert ct_Expression_invert), sl_Expression_invert⟩)
    (c_Expression_invert : PySem.W.codeIn K cd_Expression_invert "Expression.__invert__" = true)
    (k_Expression_invert : PySem.W.keepIn K (.ref f_Expression_invert) = true)
    (a_Expression_abs : PySem.W.findIn K (.ref C_Expression) "__abs__" = some (some (.ref f_Expression_abs)))
    (i_Expression_abs : PySem.W.isFn K (.ref f_Expression_abs) = true)
    (l_Expression_abs : K.lookup f_Expression_abs = some ⟨oc_Expression_abs, od_Expression_abs, .func (PySem.W.fnOf "__abs__" "Expression.__abs__" (defArgs s_Expression_abs) (defBody s_Expression_abs) (defScope s_Expression_abs) .none kV_Expression_abs dc_Expression_abs pm_Expression_abs an_Expression_abs cd_Expression_abs ct_Expression_abs), sl_Expression_abs⟩)
    (c_Expression_abs : PySem.W.codeIn K cd_Expression_abs "Expression.__abs__" = true)
    (k_Expression_abs : PySem.W.keepIn K (.ref f_Expression_abs) = true)
    (a_Expression_rmul : PySem.W.findIn K (.ref C_Expression) "__rmul__" = some (some (.ref f_Expression_rmul)))
    (i_Expression_rmul : PySem.W.isFn K (.ref f_Expression_rmul) = true)
    (l_Expression_rmul : K.lookup f_Expression_rmul = some ⟨oc_Expression_rmul, od_Expression_rmul, .func (PySem.W.fnOf "__rmul__" "Expression.__rmul__" (defArgs s_Expression_rmul) (defBody s_Expression_rmul) (defScope s_Expression_rmul) .none kV_Expression_rmul dc_Expression_rmul pm_Expression_rmul an_Expression_rmul cd_Expression_rmul ct_Expression_rmul), sl_Expression_rmul⟩)
    (c_Expression_rmul : PySem.W.codeIn K cd_Expression_rmul "Expression.__rmul__" = true)
    (k_Expression_rmul : PySem.W.keepIn K (.ref f_Expression_rmul) = true)
    (a_Expression_pow : PySem.W.findIn K (.ref C_Expression) "__pow__" = some (some (.ref f_Expression_pow)))
    (i_Expression_pow : PySem.W.isFn K (.ref f_Expression_pow) = true)
    (l_Expression_pow : K.lookup f_Expression_pow = some ⟨oc_Expression_pow, od_Expression_pow, .func (PySem.W.fnOf "__pow__" "Expression.__pow__" (defArgs s_Expression_pow) (defBody s_Expression_pow) (defScope s_Expression_pow) .none kV_Expression_pow dc_Expression_pow pm_Expression_pow an_Expression_pow cd_Expression_pow ct_Expression_pow), sl_Expression_pow⟩)
    (c_Expression_pow : PySem.W.codeIn K cd_Expression_pow "Expression.__pow__" = true)
    (k_Expression_pow : PySem.W.keepIn K (.ref f_Expression_pow) = true)
    (a_count_steps : PySem.W.nsIn K mainGlobals "count_steps" = some (some (.ref f_count_steps)))
    (l_count_steps : K.lookup f_count_steps = some ⟨oc_count_steps, od_count_steps, .func (PySem.W.fnOf "count_steps" "count_steps" (defArgs s_count_steps) (defBody s_count_steps) (defScope s_count_steps) .none kV_count_steps dc_count_steps pm_count_steps an_count_steps cd_count_steps ct_count_steps), sl_count_steps⟩)
    (c_count_steps : PySem.W.codeIn K cd_count_steps "count_steps" = true)
    (k_count_steps : PySem.W.keepIn K (.ref f_count_steps) = true)
    (a_binary : PySem.W.nsIn K mainGlobals "binary" = some (some (.ref f_binary)))
    (l_binary : K.lookup f_binary = some ⟨oc_binary, od_binary, .func (PySem.W.fnOf "binary" "binary" (defArgs s_binary) (defBody s_binary) (defScope s_binary) .none kV_binary dc_binary pm_binary an_binary cd_binary ct_binary), sl_binary⟩)
    (c_binary : PySem.W.codeIn K cd_binary "binary" = true)
    (k_binary : PySem.W.keepIn K (.ref f_binary) = true)
    (a_unary : PySem.W.nsIn K mainGlobals "unary" = some (some (.ref f_unary)))
    (l_unary : K.lookup f_unary = some ⟨oc_unary, od_unary, .func (PySem.W.fnOf "unary" "unary" (defArgs s_unary) (defBody s_unary) (defScope s_unary) .none kV_unary dc_unary pm_unary an_unary cd_unary ct_unary), sl_unary⟩)
    (c_unary : PySem.W.codeIn K cd_unary "unary" = true)
    (k_unary : PySem.W.keepIn K (.ref f_unary) = true)
    (a_repeated : PySem.W.nsIn K mainGlobals "repeated" = some (some (.ref f_repeated)))
    (l_repeated : K.lookup f_repeated = some ⟨oc_repeated, od_repeated, .func (PySem.W.fnOf "repeated" "repeated" (defArgs s_repeated) (defBody s_repeated) (defScope s_repeated) .none kV_repeated dc_repeated pm_repeated an_repeated cd_repeated ct_repeated), sl_repeated⟩)
    (c_repeated : PySem.W.codeIn K cd_repeated "repeated" = true)
    (k_repeated : PySem.W.keepIn K (.ref f_repeated) = true)
    (a_Reader_init : PySem.W.findIn K (.ref C_Reader) "__init__" = some (some (.ref f_Reader_init)))
    (i_Reader_init : PySem.W.isFn K (.ref f_Reader_init) = true)
    (l_Reader_init : K.lookup f_Reader_init = some ⟨oc_Reader_init, od_Reader_init, .func (PySem.W.fnOf "__init__" "Reader.__init__" (defArgs s_Reader_init) (defBody s_Reader_init) (defScope s_Reader_init) .none kV_Reader_init dc_Reader_init pm_Reader_init an_Reader_init cd_Reader_init ct_Reader_init), sl_Reader_init⟩)
    (c_Reader_init : PySem.W.codeIn K cd_Reader_init "Reader.__init__" = true)
    (k_Reader_init : PySem.W.keepIn K (.ref f_Reader_init) = true)
    (a_Reader_whole : PySem.W.findIn K (.ref C_Reader) "whole" = some (some (.ref f_Reader_whole)))
    (i_Reader_whole : PySem.W.isFn K (.ref f_Reader_whole) = true)
    (l_Reader_whole : K.lookup f_Reader_whole = some ⟨oc_Reader_whole, od_Reader_whole, .func (PySem.W.fnOf "whole" "Reader.whole" (defArgs s_Reader_whole) (defBody s_Reader_whole) (defScope s_Reader_whole) .none kV_Reader_whole dc_Reader_whole pm_Reader_whole an_Reader_whole cd_Reader_whole ct_Reader_whole), sl_Reader_whole⟩)
    (c_Reader_whole : PySem.W.codeIn K cd_Reader_whole "Reader.whole" = true)
    (k_Reader_whole : PySem.W.keepIn K (.ref f_Reader_whole) = true)
    (a_Reader_here : PySem.W.findIn K (.ref C_Reader) "here" = some (some (.ref f_Reader_here)))
    (i_Reader_here : PySem.W.isFn K (.ref f_Reader_here) = true)
    (l_Reader_here : K.lookup f_Reader_here = some ⟨oc_Reader_here, od_Reader_here, .func (PySem.W.fnOf "here" "Reader.here" (defArgs s_Reader_here) (defBody s_Reader_here) (defScope s_Reader_here) .none kV_Reader_here dc_Reader_here pm_Reader_here an_Reader_here cd_Reader_here ct_Reader_here), sl_Reader_here⟩)
    (c_Reader_here : PySem.W.codeIn K cd_Reader_here "Reader.here" = true)
    (k_Reader_here : PySem.W.keepIn K (.ref f_Reader_here) = true)
    (a_Reader_skip : PySem.W.findIn K (.ref C_Reader) "skip" = some (some (.ref f_Reader_skip)))
    (i_Reader_skip : PySem.W.isFn K (.ref f_Reader_skip) = true)
    (l_Reader_skip : K.lookup f_Reader_skip = some ⟨oc_Reader_skip, od_Reader_skip, .func (PySem.W.fnOf "skip" "Reader.skip" (defArgs s_Reader_skip) (defBody s_Reader_skip) (defScope s_Reader_skip) .none kV_Reader_skip dc_Reader_skip pm_Reader_skip an_Reader_skip cd_Reader_skip ct_Reader_skip), sl_Reader_skip⟩)
    (c_Reader_skip : PySem.W.codeIn K cd_Reader_skip "Reader.skip" = true)
    (k_Reader_skip : PySem.W.keepIn K (.ref f_Reader_skip) = true)
    (a_Reader_letters : PySem.W.findIn K (.ref C_Reader) "letters" = some (some (.ref f_Reader_letters)))
    (i_Reader_letters : PySem.W.isFn K (.ref f_Reader_letters) = true)
    (l_Reader_letters : K.lookup f_Reader_letters = some ⟨oc_Reader_letters, od_Reader_letters, .func (PySem.W.fnOf "letters" "Reader.letters" (defArgs s_Reader_letters) (defBody s_Reader_letters) (defScope s_Reader_letters) .none kV_Reader_letters dc_Reader_letters pm_Reader_letters an_Reader_letters cd_Reader_letters ct_Reader_letters), sl_Reader_letters⟩)
    (c_Reader_letters : PySem.W.codeIn K cd_Reader_letters "Reader.letters" = true)
    (k_Reader_letters : PySem.W.keepIn K (.ref f_Reader_letters) = true)
    (a_Reader_go_in : PySem.W.findIn K (.ref C_Reader) "go_in" = some (some (.ref f_Reader_go_in)))
    (i_Reader_go_in : PySem.W.isFn K (.ref f_Reader_go_in) = true)
    (l_Reader_go_in : K.lookup f_Reader_go_in = some ⟨oc_Reader_go_in, od_Reader_go_in, .func (PySem.W.fnOf "go_in" "Reader.go_in" (defArgs s_Reader_go_in) (defBody s_Reader_go_in) (defScope s_Reader_go_in) .none kV_Reader_go_in dc_Reader_go_in pm_Reader_go_in an_Reader_go_in cd_Reader_go_in ct_Reader_go_in), sl_Reader_go_in⟩)
    (c_Reader_go_in : PySem.W.codeIn K cd_Reader_go_in "Reader.go_in" = true)
    (k_Reader_go_in : PySem.W.keepIn K (.ref f_Reader_go_in) = true)
    (a_Reader_is_opened : PySem.W.findIn K (.ref C_Reader) "is_opened" = some (some (.ref f_Reader_is_opened)))
    (i_Reader_is_opened : PySem.W.isFn K (.ref f_Reader_is_opened) = true)
    (l_Reader_is_opened : K.lookup f_Reader_is_opened = some ⟨oc_Reader_is_opened, od_Reader_is_opened, .func (PySem.W.fnOf "is_opened" "Reader.is_opened" (defArgs s_Reader_is_opened) (defBody s_Reader_is_opened) (defScope s_Reader_is_opened) .none kV_Reader_is_opened dc_Reader_is_opened pm_Reader_is_opened an_Reader_is_opened cd_Reader_is_opened ct_Reader_is_opened), sl_Reader_is_opened⟩)
    (c_Reader_is_opened : PySem.W.codeIn K cd_Reader_is_opened "Reader.is_opened" = true)
    (k_Reader_is_opened : PySem.W.keepIn K (.ref f_Reader_is_opened) = true)
    (a_Reader_class_name : PySem.W.findIn K (.ref C_Reader) "class_name" = some (some (.ref f_Reader_class_name)))
    (i_Reader_class_name : PySem.W.isFn K (.ref f_Reader_class_name) = true)
    (l_Reader_class_name : K.lookup f_Reader_class_name = some ⟨oc_Reader_class_name, od_Reader_class_name, .func (PySem.W.fnOf "class_name" "Reader.class_name" (defArgs s_Reader_class_name) (defBody s_Reader_class_name) (defScope s_Reader_class_name) .none kV_Reader_class_name dc_Reader_class_name pm_Reader_class_name an_Reader_class_name cd_Reader_class_name ct_Reader_class_name), sl_Reader_class_name⟩)
    (c_Reader_class_name : PySem.W.codeIn K cd_Reader_class_name "Reader.class_name" = true)
    (k_Reader_class_name : PySem.W.keepIn K (.ref f_Reader_class_name) = true)
    (a_Reader_read_request : PySem.W.findIn K (.ref C_Reader) "read_request" = some (some (.ref f_Reader_read_request)))
    (i_Reader_read_request : PySem.W.isFn K (.ref f_Reader_read_request) = true)
    (l_Reader_read_request : K.lookup f_Reader_read_request = some ⟨oc_Reader_read_request, od_Reader_read_request, .func (PySem.W.fnOf "read_request" "Reader.read_request" (defArgs s_Reader_read_request) (defBody s_Reader_read_request) (defScope s_Reader_read_request) .none kV_Reader_read_request dc_Reader_read_request pm_Reader_read_request an_Reader_read_request cd_Reader_read_request ct_Reader_read_request), sl_Reader_read_request⟩)
    (c_Reader_read_request : PySem.W.codeIn K cd_Reader_read_request "Reader.read_request" = true)
    (k_Reader_read_request : PySem.W.keepIn K (.ref f_Reader_read_request) = true)
    (a_Reader_close : PySem.W.findIn K (.ref C_Reader) "close" = some (some (.ref f_Reader_close)))
    (i_Reader_close : PySem.W.isFn K (.ref f_Reader_close) = true)
    (l_Reader_close : K.lookup f_Reader_close = some ⟨oc_Reader_close, od_Reader_close, .func (PySem.W.fnOf "close" "Reader.close" (defArgs s_Reader_close) (defBody s_Reader_close) (defScope s_Reader_close) .none kV_Reader_close dc_Reader_close pm_Reader_close an_Reader_close cd_Reader_close ct_Reader_close), sl_Reader_close⟩)
    (c_Reader_close : PySem.W.codeIn K cd_Reader_close "Reader.close" = true)
    (k_Reader_close : PySem.W.keepIn K (.ref f_Reader_close) = true)
    (a_Reader_read_sign : PySem.W.findIn K (.ref C_Reader) "read_sign" = some (some (.ref f_Reader_read_sign)))
    (i_Reader_read_sign : PySem.W.isFn K (.ref f_Reader_read_sign) = true)
    (l_Reader_read_sign : K.lookup f_Reader_read_sign = some ⟨oc_Reader_read_sign, od_Reader_read_sign, .func (PySem.W.fnOf "read_sign" "Reader.read_sign" (defArgs s_Reader_read_sign) (defBody s_Reader_read_sign) (defScope s_Reader_read_sign) .none kV_Reader_read_sign dc_Reader_read_sign pm_Reader_read_sign an_Reader_read_sign cd_Reader_read_sign ct_Reader_read_sign), sl_Reader_read_sign⟩)
    (c_Reader_read_sign : PySem.W.codeIn K cd_Reader_read_sign "Reader.read_sign" = true)
    (k_Reader_read_sign : PySem.W.keepIn K (.ref f_Reader_read_sign) = true)
    (a_law_bag : PySem.W.nsIn K mainGlobals "_law_bag" = some (some (.ref f_law_bag)))
    (l_law_bag : K.lookup f_law_bag = some ⟨oc_law_bag, od_law_bag, .func (PySem.W.fnOf "_law_bag" "_law_bag" (defArgs s_law_bag) (defBody s_law_bag) (defScope s_law_bag) .none kV_law_bag dc_law_bag pm_law_bag an_law_bag cd_law_bag ct_law_bag), sl_law_bag⟩)
    (c_law_bag : PySem.W.codeIn K cd_law_bag "_law_bag" = true)
    (k_law_bag : PySem.W.keepIn K (.ref f_law_bag) = true)
    (a_law_take : PySem.W.nsIn K mainGlobals "_law_take" = some (some (.ref f_law_take)))
    (l_law_take : K.lookup f_law_take = some ⟨oc_law_take, od_law_take, .func (PySem.W.fnOf "_law_take" "_law_take" (defArgs s_law_take) (defBody s_law_take) (defScope s_law_take) .none kV_law_take dc_law_take pm_law_take an_law_take cd_law_take ct_law_take), sl_law_take⟩)
    (c_law_take : PySem.W.codeIn K cd_law_take "_law_take" = true)
    (k_law_take : PySem.W.keepIn K (.ref f_law_take) = true)
    (a_law_of : PySem.W.nsIn K mainGlobals "_law_of" = some (some (.ref f_law_of)))
    (l_law_of : K.lookup f_law_of = some ⟨oc_law_of, od_law_of, .func (PySem.W.fnOf "_law_of" "_law_of" (defArgs s_law_of) (defBody s_law_of) (defScope s_law_of) .none kV_law_of dc_law_of pm_law_of an_law_of cd_law_of ct_law_of), sl_law_of⟩)
    (c_law_of : PySem.W.codeIn K cd_law_of "_law_of" = true)
    (k_law_of : PySem.W.keepIn K (.ref f_law_of) = true)
    (a_law_joined : PySem.W.nsIn K mainGlobals "_law_joined" = some (some (.ref f_law_joined)))
    (l_law_joined : K.lookup f_law_joined = some ⟨oc_law_joined, od_law_joined, .func (PySem.W.fnOf "_law_joined" "_law_joined" (defArgs s_law_joined) (defBody s_law_joined) (defScope s_law_joined) .none kV_law_joined dc_law_joined pm_law_joined an_law_joined cd_law_joined ct_law_joined), sl_law_joined⟩)
    (c_law_joined : PySem.W.codeIn K cd_law_joined "_law_joined" = true)
    (k_law_joined : PySem.W.keepIn K (.ref f_law_joined) = true)
    (a_law_marked : PySem.W.nsIn K mainGlobals "_law_marked" = some (some (.ref f_law_marked)))
    (l_law_marked : K.lookup f_law_marked = some ⟨oc_law_marked, od_law_marked, .func (PySem.W.fnOf "_law_marked" "_law_marked" (defArgs s_law_marked) (defBody s_law_marked) (defScope s_law_marked) .none kV_law_marked dc_law_marked pm_law_marked an_law_marked cd_law_marked ct_law_marked), sl_law_marked⟩)
    (c_law_marked : PySem.W.codeIn K cd_law_marked "_law_marked" = true)
    (k_law_marked : PySem.W.keepIn K (.ref f_law_marked) = true)
    (a_law_long : PySem.W.nsIn K mainGlobals "_law_long" = some (some (.ref f_law_long)))
    (l_law_long : K.lookup f_law_long = some ⟨oc_law_long, od_law_long, .func (PySem.W.fnOf "_law_long" "_law_long" (defArgs s_law_long) (defBody s_law_long) (defScope s_law_long) .none kV_law_long dc_law_long pm_law_long an_law_long cd_law_long ct_law_long), sl_law_long⟩)
    (c_law_long : PySem.W.codeIn K cd_law_long "_law_long" = true)
    (k_law_long : PySem.W.keepIn K (.ref f_law_long) = true)
    (a_law_joined_right : PySem.W.nsIn K mainGlobals "_law_joined_right" = some (some (.ref f_law_joined_right)))
    (l_law_joined_right : K.lookup f_law_joined_right = some ⟨oc_law_joined_right, od_law_joined_right, .func (PySem.W.fnOf "_law_joined_right" "_law_joined_right" (defArgs s_law_joined_right) (defBody s_law_joined_right) (defScope s_law_joined_right) .none kV_law_joined_right dc_law_joined_right pm_law_joined_right an_law_joined_right cd_law_joined_right ct_law_joined_right), sl_law_joined_right⟩)
    (c_law_joined_right : PySem.W.codeIn K cd_law_joined_right "_law_joined_right" = true)
    (k_law_joined_right : PySem.W.keepIn K (.ref f_law_joined_right) = true)
    (a_law_marked_right : PySem.W.nsIn K mainGlobals "_law_marked_right" = some (some (.ref f_law_marked_right)))
    (l_law_marked_right : K.lookup f_law_marked_right = some ⟨oc_law_marked_right, od_law_marked_right, .func (PySem.W.fnOf "_law_marked_right" "_law_marked_right" (defArgs s_law_marked_right) (defBody s_law_marked_right) (defScope s_law_marked_right) .none kV_law_marked_right dc_law_marked_right pm_law_marked_right an_law_marked_right cd_law_marked_right ct_law_marked_right), sl_law_marked_right⟩)
    (c_law_marked_right : PySem.W.codeIn K cd_law_marked_right "_law_marked_right" = true)
    (k_law_marked_right : PySem.W.keepIn K (.ref f_law_marked_right) = true)
    (a_law_power : PySem.W.nsIn K mainGlobals "_law_power" = some (some (.ref f_law_power)))
    (l_law_power : K.lookup f_law_power = some ⟨oc_law_power, od_law_power, .func (PySem.W.fnOf "_law_power" "_law_power" (defArgs s_law_power) (defBody s_law_power) (defScope s_law_power) .none kV_law_power dc_law_power pm_law_power an_law_power cd_law_power ct_law_power), sl_law_power⟩)
    (c_law_power : PySem.W.codeIn K cd_law_power "_law_power" = true)
    (k_law_power : PySem.W.keepIn K (.ref f_law_power) = true)
    (a_law_times_right : PySem.W.nsIn K mainGlobals "_law_times_right" = some (some (.ref f_law_times_right)))
    (l_law_times_right : K.lookup f_law_times_right = some ⟨oc_law_times_right, od_law_times_right, .func (PySem.W.fnOf "_law_times_right" "_law_times_right" (defArgs s_law_times_right) (defBody s_law_times_right) (defScope s_law_times_right) .none kV_law_times_right dc_law_times_right pm_law_times_right an_law_times_right cd_law_times_right ct_law_times_right), sl_law_times_right⟩)
    (c_law_times_right : PySem.W.codeIn K cd_law_times_right "_law_times_right" = true)
    (k_law_times_right : PySem.W.keepIn K (.ref f_law_times_right) = true)
    (a_law : PySem.W.nsIn K mainGlobals "law" = some (some (.ref f_law)))
    (l_law : K.lookup f_law = some ⟨oc_law, od_law, .func (PySem.W.fnOf "law" "law" (defArgs s_law) (defBody s_law) (defScope s_law) .none kV_law dc_law pm_law an_law cd_law ct_law), sl_law⟩)
    (c_law : PySem.W.codeIn K cd_law "law" = true)
    (k_law : PySem.W.keepIn K (.ref f_law) = true)
    (pg_Expression : PySem.W.plainGet K C_Expression Str.empty = true)
    (hd_Expression : PySem.W.hasDictIn K C_Expression = true)
    (po_Expression : PySem.W.plainOver K C_Expression = true)
    (sa_Expression : PySem.W.findIn K (.ref C_Expression) "__setattr__" = some (some (.builtin "object.__setattr__")))
    (mk_Expression : PySem.W.makesIn K C_Expression = true)
    (kc_Expression : PySem.W.keepIn K (.ref C_Expression) = true)
    (rd_Expression : PySem.W.readsIn K C_Expression (.type "type") = true)
    (ga_Expression : PySem.W.specialIn K (.ref C_Expression) "__getattribute__" = some (some (.builtin "type.__getattribute__")))
    (mo_Expression : PySem.W.mroIn K C_Expression (.type "object") = some true)
    (hc_Expression : PySem.W.findIn K (.ref C_Expression) "__class__" = some (some (.builtin "object.__class__")))
    (ic_Expression : PySem.W.isClsIn K C_Expression = true)
    (ty_Expression : PySem.W.typeIn K (.ref C_Expression) = some (.type "type"))
    (ne_Expression : PySem.W.findIn K (.ref C_Expression) "__ne__" = some (some (.builtin "object.__ne__")))
    (sf_Expression : PySem.W.selfFirst K C_Expression = true)
    (no_Expression_text : PySem.W.findIn K (.ref C_Expression) "text" = some none)
    (no_Expression_program : PySem.W.findIn K (.ref C_Expression) "program" = some none)
    (pg_Reader : PySem.W.plainGet K C_Reader Str.empty = true)
    (hd_Reader : PySem.W.hasDictIn K C_Reader = true)
    (po_Reader : PySem.W.plainOver K C_Reader = true)
    (sa_Reader : PySem.W.findIn K (.ref C_Reader) "__setattr__" = some (some (.builtin "object.__setattr__")))
    (mk_Reader : PySem.W.makesIn K C_Reader = true)
    (kc_Reader : PySem.W.keepIn K (.ref C_Reader) = true)
    (rd_Reader : PySem.W.readsIn K C_Reader (.type "type") = true)
    (ga_Reader : PySem.W.specialIn K (.ref C_Reader) "__getattribute__" = some (some (.builtin "type.__getattribute__")))
    (mo_Reader : PySem.W.mroIn K C_Reader (.type "object") = some true)
    (hc_Reader : PySem.W.findIn K (.ref C_Reader) "__class__" = some (some (.builtin "object.__class__")))
    (ic_Reader : PySem.W.isClsIn K C_Reader = true)
    (ty_Reader : PySem.W.typeIn K (.ref C_Reader) = some (.type "type"))
    (no_Reader_text : PySem.W.findIn K (.ref C_Reader) "text" = some none)
    (no_Reader_at : PySem.W.findIn K (.ref C_Reader) "at" = some none)
    (no_Reader_nested : PySem.W.findIn K (.ref C_Reader) "nested" = some none)
    (no_Reader_rows : PySem.W.findIn K (.ref C_Reader) "rows" = some none)
    (ty_BadExpression : PySem.W.typeIn K (.ref C_BadExpression) = some (.type "type"))
    (ic_BadExpression : PySem.W.isClsIn K C_BadExpression = true)
    (sb_BadExpression : PySem.W.subIn K (.ref C_BadExpression) (.type "BaseException") = some true)
    (lk_BadExpression : K.lookup C_BadExpression = some (excClassObj nm_BadExpression q_BadExpression C_BadExpression N_BadExpression bs_BadExpression bm_BadExpression true sn_BadExpression sub_BadExpression ab_BadExpression col_BadExpression dd_BadExpression k0_BadExpression k1_BadExpression k2_BadExpression k3_BadExpression k5_BadExpression "ValueError.__new__"))
    (rv_BadExpression : PySem.HandSPX.refsVE bm_BadExpression = true)
    (sa_BadExpression : PySem.W.findIn K (.ref C_BadExpression) "__setattr__" = some (some (.builtin "object.__setattr__")))
    (kc_BadExpression : PySem.W.keepIn K (.ref C_BadExpression) = true)
    (xt_BadExpression : PySem.W.typeIn K (.ref f_BadExpression_init) = some (.type "function"))
    (no_BadExpression_at : PySem.W.findIn K (.ref C_BadExpression) "at" = some none)
    (ty_TooMany : PySem.W.typeIn K (.ref C_TooMany) = some (.type "type"))
    (ic_TooMany : PySem.W.isClsIn K C_TooMany = true)
    (sb_TooMany : PySem.W.subIn K (.ref C_TooMany) (.type "BaseException") = some true)
    (lk_TooMany : K.lookup C_TooMany = some (excClassObj nm_TooMany q_TooMany C_TooMany N_TooMany bs_TooMany bm_TooMany true sn_TooMany sub_TooMany ab_TooMany col_TooMany dd_TooMany k0_TooMany k1_TooMany k2_TooMany k3_TooMany k5_TooMany "ValueError.__new__"))
    (rv_TooMany : PySem.HandSPX.refsVE bm_TooMany = true)
    (sa_TooMany : PySem.W.findIn K (.ref C_TooMany) "__setattr__" = some (some (.builtin "object.__setattr__")))
    (kc_TooMany : PySem.W.keepIn K (.ref C_TooMany) = true)
    (xt_TooMany : PySem.W.typeIn K (.ref f_TooMany_init) = some (.type "function"))
    (no_TooMany_what : PySem.W.findIn K (.ref C_TooMany) "what" = some none)
    (ga_TooMany : PySem.W.findIn K (.ref C_TooMany) "__getattribute__" = some (some (.builtin "BaseException.__getattribute__")))
    (gg_TooMany : PySem.W.findIn K (.ref C_TooMany) "__getattr__" = some none)
    (hd_TooMany : PySem.W.hasDictIn K C_TooMany = true)
    (hc_TooMany : PySem.W.findIn K (.ref C_TooMany) "__class__" = some (some (.builtin "object.__class__")))
    (mo_TooMany : PySem.W.mroIn K C_TooMany (.type "object") = some true)
    (ty_HeirsbackError : PySem.W.typeIn K (.ref C_HeirsbackError) = some (.type "type"))
    (ic_HeirsbackError : PySem.W.isClsIn K C_HeirsbackError = true)
    (sb_HeirsbackError : PySem.W.subIn K (.ref C_HeirsbackError) (.type "BaseException") = some true)
    (hnC : PySem.W.specialIn K (.builtin "object.__class__") "__get__" = some (some (.builtin "getset_descriptor.__get__")))
    (htC : PySem.W.takesIn K (.builtin "object.__class__") = some true)
    (a_MOST : PySem.W.nsIn K mainGlobals "MOST" = some (some (.int 100 t_MOST)))
    (a_SMALL : PySem.W.nsIn K mainGlobals "SMALL" = some (some (.str "abcdefghijklmnopqrstuvwxyz" t_SMALL)))
    (a_CAPITAL : PySem.W.nsIn K mainGlobals "CAPITAL" = some (some (.str "ABCDEFGHIJKLMNOPQRSTUVWXYZ" t_CAPITAL)))
    (a_LONGEST : PySem.W.nsIn K mainGlobals "LONGEST" = some (some (.int 8 t_LONGEST)))
    (a_LEAF : PySem.W.nsIn K mainGlobals "LEAF" = some (some (.str "leaf" t_LEAF)))
    (a_ASKED : PySem.W.nsIn K mainGlobals "ASKED" = some (some (.str "asked" t_ASKED)))
    (a_UNARY_SIGNS : PySem.W.nsIn K mainGlobals "UNARY_SIGNS" = some (some (.ref ad_UNARY_SIGNS)))
    (lk_UNARY_SIGNS : K.lookup ad_UNARY_SIGNS = some ⟨.type "tuple", od_UNARY_SIGNS, .seq #[.str "neg" t0_UNARY_SIGNS, .str "pos" t1_UNARY_SIGNS, .str "abs" t2_UNARY_SIGNS, .str "invert" t3_UNARY_SIGNS] n_UNARY_SIGNS, sl_UNARY_SIGNS⟩)
    (a_DONE : PySem.W.nsIn K mainGlobals "DONE" = some (some (.str "done" t_DONE)))
    (xr_Expression_pow : PySem.W.findIn K (.ref C_Expression) "__rpow__" = some none)
    (xi_Expression_pow : PySem.W.findIn K (.type "int") "__pow__" = some (some (.builtin "int.__pow__")))
    (xj_Expression_pow : PySem.W.findIn K (.type "int") "__rpow__" = some (some (.builtin "int.__rpow__")))
    (xs_Expression_int : PySem.W.subIn K (.type "int") (.ref C_Expression) = some false)
    (xt_Expression_int : PySem.W.subIn K (.ref C_Expression) (.type "int") = some false)
    (su_tt : PySem.W.subIn K (.ref C_TooMany) (.ref C_TooMany) = some true)
    (su_th : PySem.W.subIn K (.ref C_TooMany) (.ref C_HeirsbackError) = some true)
    (xhd_hb : PySem.W.hasDictIn K C_HeirsbackError = true)
    (xhd_tm : PySem.W.hasDictIn K C_TooMany = true)
    (xe_str : PySem.W.subIn K (.ref C_Expression) (.type "str") = some false)
    (n_abs : PySem.W.nsIn K mainGlobals "abs" = some none)
    (n_bool : PySem.W.nsIn K mainGlobals "bool" = some none)
    (n_enumerate : PySem.W.nsIn K mainGlobals "enumerate" = some none)
    (n_int : PySem.W.nsIn K mainGlobals "int" = some none)
    (n_isinstance : PySem.W.nsIn K mainGlobals "isinstance" = some none)
    (n_len : PySem.W.nsIn K mainGlobals "len" = some none)
    (n_list : PySem.W.nsIn K mainGlobals "list" = some none)
    (n_max : PySem.W.nsIn K mainGlobals "max" = some none)
    (n_min : PySem.W.nsIn K mainGlobals "min" = some none)
    (n_range : PySem.W.nsIn K mainGlobals "range" = some none)
    (n_str : PySem.W.nsIn K mainGlobals "str" = some none)
    (n_tuple : PySem.W.nsIn K mainGlobals "tuple" = some none) :
    ∃ fd : FuncData, (∀ (s : Shared) (v : Value), BindsTo s fd ⟨[v], []⟩ [("_law_script", v)]) ∧ ∀ base : Heap, K.In base → base.Ns mainGlobals mg → FnOk l.prog w K mg base CX0 8 fa fd ["_law_script"] (sp_law K) := by
  have e := hfa.symm.trans (PySem.W.mg_of X G a_law)
  cases e
  have T : Txt K mg ⟨f_BadExpression_init, (PySem.W.fnOf "__init__" "BadExpression.__init__" (defArgs s_BadExpression_init) (defBody s_BadExpression_init) (defScope s_BadExpression_init) .none kV_BadExpression_init dc_BadExpression_init pm_BadExpression_init an_BadExpression_init cd_BadExpression_init ct_BadExpression_init), f_TooMany_init, (PySem.W.fnOf "__init__" "TooMany.__init__" (defArgs s_TooMany_init) (defBody s_TooMany_init) (defScope s_TooMany_init) .none kV_TooMany_init dc_TooMany_init pm_TooMany_init an_TooMany_init cd_TooMany_init ct_TooMany_init), f_Expression_init, (PySem.W.fnOf "__init__" "Expression.__init__" (defArgs s_Expression_init) (defBody s_Expression_init) (defScope s_Expression_init) .none kV_Expression_init dc_Expression_init pm_Expression_init an_Expression_init cd_Expression_init ct_Expression_init), f_Expression_leaf, (PySem.W.fnOf "leaf" "Expression.leaf" (defArgs s_Expression_leaf) (defBody s_Expression_leaf) (defScope s_Expression_leaf) .none kV_Expression_leaf dc_Expression_leaf pm_Expression_leaf an_Expression_leaf cd_Expression_leaf ct_Expression_leaf), f_Expression_asked, (PySem.W.fnOf "asked" "Expression.asked" (defArgs s_Expression_asked) (defBody s_Expression_asked) (defScope s_Expression_asked) .none kV_Expression_asked dc_Expression_asked pm_Expression_asked an_Expression_asked cd_Expression_asked ct_Expression_asked), f_Expression_read, (PySem.W.fnOf "read" "Expression.read" (defArgs s_Expression_read) (defBody s_Expression_read) (defScope s_Expression_read) .none kV_Expression_read dc_Expression_read pm_Expression_read an_Expression_read cd_Expression_read ct_Expression_read), p_Expression_read, f_Expression_len, (PySem.W.fnOf "__len__" "Expression.__len__" (defArgs s_Expression_len) (defBody s_Expression_len) (defScope s_Expression_len) .none kV_Expression_len dc_Expression_len pm_Expression_len an_Expression_len cd_Expression_len ct_Expression_len), f_Expression_str, (PySem.W.fnOf "__str__" "Expression.__str__" (defArgs s_Expression_str) (defBody s_Expression_str) (defScope s_Expression_str) .none kV_Expression_str dc_Expression_str pm_Expression_str an_Expression_str cd_Expression_str ct_Expression_str), f_Expression_eq, (PySem.W.fnOf "__eq__" "Expression.__eq__" (defArgs s_Expression_eq) (defBody s_Expression_eq) (defScope s_Expression_eq) .none kV_Expression_eq dc_Expression_eq pm_Expression_eq an_Expression_eq cd_Expression_eq ct_Expression_eq), f_Expression_add, (PySem.W.fnOf "__add__" "Expression.__add__" (defArgs s_Expression_add) (defBody s_Expression_add) (defScope s_Expression_add) .none kV_Expression_add dc_Expression_add pm_Expression_add an_Expression_add cd_Expression_add ct_Expression_add), f_Expression_sub, (PySem.W.fnOf "__sub__" "Expression.__sub__" (defArgs s_Expression_sub) (defBody s_Expression_sub) (defScope s_Expression_sub) .none kV_Expression_sub dc_Expression_sub pm_Expression_sub an_Expression_sub cd_Expression_sub ct_Expression_sub), f_Expression_mul, (PySem.W.fnOf "__mul__" "Expression.__mul__" (defArgs s_Expression_mul) (defBody s_Expression_mul) (defScope s_Expression_mul) .none kV_Expression_mul dc_Expression_mul pm_Expression_mul an_Expression_mul cd_Expression_mul ct_Expression_mul), f_Expression_floordiv, (PySem.W.fnOf "__floordiv__" "Expression.__floordiv__" (defArgs s_Expression_floordiv) (defBody s_Expression_floordiv) (defScope s_Expression_floordiv) .none kV_Expression_floordiv dc_Expression_floordiv pm_Expression_floordiv an_Expression_floordiv cd_Expression_floordiv ct_Expression_floordiv), f_Expression_and, (PySem.W.fnOf "__and__" "Expression.__and__" (defArgs s_Expression_and) (defBody s_Expression_and) (defScope s_Expression_and) .none kV_Expression_and dc_Expression_and pm_Expression_and an_Expression_and cd_Expression_and ct_Expression_and), f_Expression_or, (PySem.W.fnOf "__or__" "Expression.__or__" (defArgs s_Expression_or) (defBody s_Expression_or) (defScope s_Expression_or) .none kV_Expression_or dc_Expression_or pm_Expression_or an_Expression_or cd_Expression_or ct_Expression_or), f_Expression_xor, (PySem.W.fnOf "__xor__" "Expression.__xor__" (defArgs s_Expression_xor) (defBody s_Expression_xor) (defScope s_Expression_xor) .none kV_Expression_xor dc_Expression_xor pm_Expression_xor an_Expression_xor cd_Expression_xor ct_Expression_xor), f_Expression_lshift, (PySem.W.fnOf "__lshift__" "Expression.__lshift__" (defArgs s_Expression_lshift) (defBody s_Expression_lshift) (defScope s_Expression_lshift) .none kV_Expression_lshift dc_Expression_lshift pm_Expression_lshift an_Expression_lshift cd_Expression_lshift ct_Expression_lshift), f_Expression_rshift, (PySem.W.fnOf "__rshift__" "Expression.__rshift__" (defArgs s_Expression_rshift) (defBody s_Expression_rshift) (defScope s_Expression_rshift) .none kV_Expression_rshift dc_Expression_rshift pm_Expression_rshift an_Expression_rshift cd_Expression_rshift ct_Expression_rshift), f_Expression_neg, (PySem.W.fnOf "__neg__" "Expression.__neg__" (defArgs s_Expression_neg) (defBody s_Expression_neg) (defScope s_Expression_neg) .none kV_Expression_neg dc_Expression_neg pm_Expression_neg an_Expression_neg cd_Expression_neg ct_Expression_neg), f_Expression_pos, (PySem.W.fnOf "__pos__" "Expression.__pos__" (defArgs s_Expression_pos) (defBody s_Expression_pos) (defScope s_Expression_pos) .none kV_Expression_pos dc_Expression_pos pm_Expression_pos an_Expression_pos cd_Expression_pos ct_Expression_pos), f_Expression_invert, (PySem.W.fnOf "__invert__" "Expression.__invert__" (defArgs s_Expression_invert) (defBody s_Expression_invert) (defScope s_Expression_invert) .none kV_Expression_invert dc_Expression_invert pm_Expression_invert an_Expression_invert cd_Expression_invert ct_Expression_invert), f_Expression_abs, (PySem.W.fnOf "__abs__" "Expression.__abs__" (defArgs s_Expression_abs) (defBody s_Expression_abs) (defScope s_Expression_abs) .none kV_Expression_abs dc_Expression_abs pm_Expression_abs an_Expression_abs cd_Expression_abs ct_Expression_abs), f_Expression_rmul, (PySem.W.fnOf "__rmul__" "Expression.__rmul__" (defArgs s_Expression_rmul) (defBody s_Expression_rmul) (defScope s_Expression_rmul) .none kV_Expression_rmul dc_Expression_rmul pm_Expression_rmul an_Expression_rmul cd_Expression_rmul ct_Expression_rmul), f_Expression_pow, (PySem.W.fnOf "__pow__" "Expression.__pow__" (defArgs s_Expression_pow) (defBody s_Expression_pow) (defScope s_Expression_pow) .none kV_Expression_pow dc_Expression_pow pm_Expression_pow an_Expression_pow cd_Expression_pow ct_Expression_pow), f_count_steps, (PySem.W.fnOf "count_steps" "count_steps" (defArgs s_count_steps) (defBody s_count_steps) (defScope s_count_steps) .none kV_count_steps dc_count_steps pm_count_steps an_count_steps cd_count_steps ct_count_steps), f_binary, (PySem.W.fnOf "binary" "binary" (defArgs s_binary) (defBody s_binary) (defScope s_binary) .none kV_binary dc_binary pm_binary an_binary cd_binary ct_binary), f_unary, (PySem.W.fnOf "unary" "unary" (defArgs s_unary) (defBody s_unary) (defScope s_unary) .none kV_unary dc_unary pm_unary an_unary cd_unary ct_unary), f_repeated, (PySem.W.fnOf "repeated" "repeated" (defArgs s_repeated) (defBody s_repeated) (defScope s_repeated) .none kV_repeated dc_repeated pm_repeated an_repeated cd_repeated ct_repeated), f_Reader_init, (PySem.W.fnOf "__init__" "Reader.__init__" (defArgs s_Reader_init) (defBody s_Reader_init) (defScope s_Reader_init) .none kV_Reader_init dc_Reader_init pm_Reader_init an_Reader_init cd_Reader_init ct_Reader_init), f_Reader_whole, (PySem.W.fnOf "whole" "Reader.whole" (defArgs s_Reader_whole) (defBody s_Reader_whole) (defScope s_Reader_whole) .none kV_Reader_whole dc_Reader_whole pm_Reader_whole an_Reader_whole cd_Reader_whole ct_Reader_whole), f_Reader_here, (PySem.W.fnOf "here" "Reader.here" (defArgs s_Reader_here) (defBody s_Reader_here) (defScope s_Reader_here) .none kV_Reader_here dc_Reader_here pm_Reader_here an_Reader_here cd_Reader_here ct_Reader_here), f_Reader_skip, (PySem.W.fnOf "skip" "Reader.skip" (defArgs s_Reader_skip) (defBody s_Reader_skip) (defScope s_Reader_skip) .none kV_Reader_skip dc_Reader_skip pm_Reader_skip an_Reader_skip cd_Reader_skip ct_Reader_skip), f_Reader_letters, (PySem.W.fnOf "letters" "Reader.letters" (defArgs s_Reader_letters) (defBody s_Reader_letters) (defScope s_Reader_letters) .none kV_Reader_letters dc_Reader_letters pm_Reader_letters an_Reader_letters cd_Reader_letters ct_Reader_letters), f_Reader_go_in, (PySem.W.fnOf "go_in" "Reader.go_in" (defArgs s_Reader_go_in) (defBody s_Reader_go_in) (defScope s_Reader_go_in) .none kV_Reader_go_in dc_Reader_go_in pm_Reader_go_in an_Reader_go_in cd_Reader_go_in ct_Reader_go_in), f_Reader_is_opened, (PySem.W.fnOf "is_opened" "Reader.is_opened" (defArgs s_Reader_is_opened) (defBody s_Reader_is_opened) (defScope s_Reader_is_opened) .none kV_Reader_is_opened dc_Reader_is_opened pm_Reader_is_opened an_Reader_is_opened cd_Reader_is_opened ct_Reader_is_opened), f_Reader_class_name, (PySem.W.fnOf "class_name" "Reader.class_name" (defArgs s_Reader_class_name) (defBody s_Reader_class_name) (defScope s_Reader_class_name) .none kV_Reader_class_name dc_Reader_class_name pm_Reader_class_name an_Reader_class_name cd_Reader_class_name ct_Reader_class_name), f_Reader_read_request, (PySem.W.fnOf "read_request" "Reader.read_request" (defArgs s_Reader_read_request) (defBody s_Reader_read_request) (defScope s_Reader_read_request) .none kV_Reader_read_request dc_Reader_read_request pm_Reader_read_request an_Reader_read_request cd_Reader_read_request ct_Reader_read_request), f_Reader_close, (PySem.W.fnOf "close" "Reader.close" (defArgs s_Reader_close) (defBody s_Reader_close) (defScope s_Reader_close) .none kV_Reader_close dc_Reader_close pm_Reader_close an_Reader_close cd_Reader_close ct_Reader_close), f_Reader_read_sign, (PySem.W.fnOf "read_sign" "Reader.read_sign" (defArgs s_Reader_read_sign) (defBody s_Reader_read_sign) (defScope s_Reader_read_sign) .none kV_Reader_read_sign dc_Reader_read_sign pm_Reader_read_sign an_Reader_read_sign cd_Reader_read_sign ct_Reader_read_sign), f_law_bag, (PySem.W.fnOf "_law_bag" "_law_bag" (defArgs s_law_bag) (defBody s_law_bag) (defScope s_law_bag) .none kV_law_bag dc_law_bag pm_law_bag an_law_bag cd_law_bag ct_law_bag), f_law_take, (PySem.W.fnOf "_law_take" "_law_take" (defArgs s_law_take) (defBody s_law_take) (defScope s_law_take) .none kV_law_take dc_law_take pm_law_take an_law_take cd_law_take ct_law_take), f_law_of, (PySem.W.fnOf "_law_of" "_law_of" (defArgs s_law_of) (defBody s_law_of) (defScope s_law_of) .none kV_law_of dc_law_of pm_law_of an_law_of cd_law_of ct_law_of), f_law_joined, (PySem.W.fnOf "_law_joined" "_law_joined" (defArgs s_law_joined) (defBody s_law_joined) (defScope s_law_joined) .none kV_law_joined dc_law_joined pm_law_joined an_law_joined cd_law_joined ct_law_joined), f_law_marked, (PySem.W.fnOf "_law_marked" "_law_marked" (defArgs s_law_marked) (defBody s_law_marked) (defScope s_law_marked) .none kV_law_marked dc_law_marked pm_law_marked an_law_marked cd_law_marked ct_law_marked), f_law_long, (PySem.W.fnOf "_law_long" "_law_long" (defArgs s_law_long) (defBody s_law_long) (defScope s_law_long) .none kV_law_long dc_law_long pm_law_long an_law_long cd_law_long ct_law_long), f_law_joined_right, (PySem.W.fnOf "_law_joined_right" "_law_joined_right" (defArgs s_law_joined_right) (defBody s_law_joined_right) (defScope s_law_joined_right) .none kV_law_joined_right dc_law_joined_right pm_law_joined_right an_law_joined_right cd_law_joined_right ct_law_joined_right), f_law_marked_right, (PySem.W.fnOf "_law_marked_right" "_law_marked_right" (defArgs s_law_marked_right) (defBody s_law_marked_right) (defScope s_law_marked_right) .none kV_law_marked_right dc_law_marked_right pm_law_marked_right an_law_marked_right cd_law_marked_right ct_law_marked_right), f_law_power, (PySem.W.fnOf "_law_power" "_law_power" (defArgs s_law_power) (defBody s_law_power) (defScope s_law_power) .none kV_law_power dc_law_power pm_law_power an_law_power cd_law_power ct_law_power), f_law_times_right, (PySem.W.fnOf "_law_times_right" "_law_times_right" (defArgs s_law_times_right) (defBody s_law_times_right) (defScope s_law_times_right) .none kV_law_times_right dc_law_times_right pm_law_times_right an_law_times_right cd_law_times_right ct_law_times_right), fa, (PySem.W.fnOf "law" "law" (defArgs s_law) (defBody s_law) (defScope s_law) .none kV_law dc_law pm_law an_law cd_law ct_law), C_Expression, C_Reader, C_BadExpression, C_TooMany, C_HeirsbackError, t_MOST, t_SMALL, t_CAPITAL, t_LONGEST, t_LEAF, t_ASKED, ad_UNARY_SIGNS, t_DONE⟩ := {
    F_BadExpression_init := fun_mk (st := s_BadExpression_init) l_BadExpression_init c_BadExpression_init k_BadExpression_init,
    b_BadExpression_init := (fun_mk (st := s_BadExpression_init) l_BadExpression_init c_BadExpression_init k_BadExpression_init).binds (ps := ["self", "at"]) fun _ _ _ _ _ _ us hl => match us, hl with | [_, _], _ => rfl,
    m_BadExpression_init := ⟨a_BadExpression_init, i_BadExpression_init, k_BadExpression_init⟩,
    F_TooMany_init := fun_mk (st := s_TooMany_init) l_TooMany_init c_TooMany_init k_TooMany_init,
    b_TooMany_init := (fun_mk (st := s_TooMany_init) l_TooMany_init c_TooMany_init k_TooMany_init).binds (ps := ["self", "what"]) fun _ _ _ _ _ _ us hl => match us, hl with | [_, _], _ => rfl,
    m_TooMany_init := ⟨a_TooMany_init, i_TooMany_init, k_TooMany_init⟩,
    F_Expression_init := fun_mk (st := s_Expression_init) l_Expression_init c_Expression_init k_Expression_init,
    b_Expression_init := (fun_mk (st := s_Expression_init) l_Expression_init c_Expression_init k_Expression_init).binds (ps := ["self", "text", "program"]) fun _ _ _ _ _ _ us hl => match us, hl with | [_, _, _], _ => rfl,
    m_Expression_init := ⟨a_Expression_init, i_Expression_init, k_Expression_init⟩,
    F_Expression_leaf := fun_mk (st := s_Expression_leaf) l_Expression_leaf c_Expression_leaf k_Expression_leaf,
    b_Expression_leaf := (fun_mk (st := s_Expression_leaf) l_Expression_leaf c_Expression_leaf k_Expression_leaf).binds (ps := ["label", "name"]) fun _ _ _ _ _ _ us hl => match us, hl with | [_, _], _ => rfl,
    sm_Expression_leaf := ⟨⟨rd_Expression, ga_Expression⟩, ⟨_, _, a_Expression_leaf, _, rc_Expression_leaf⟩, k_Expression_leaf⟩,
    F_Expression_asked := fun_mk (st := s_Expression_asked) l_Expression_asked c_Expression_asked k_Expression_asked,
    b_Expression_asked := (fun_mk (st := s_Expression_asked) l_Expression_asked c_Expression_asked k_Expression_asked).binds (ps := ["name", "word"]) fun _ _ _ _ _ _ us hl => match us, hl with | [_, _], _ => rfl,
    sm_Expression_asked := ⟨⟨rd_Expression, ga_Expression⟩, ⟨_, _, a_Expression_asked, _, rc_Expression_asked⟩, k_Expression_asked⟩,
    F_Expression_read := fun_mk (st := s_Expression_read) l_Expression_read c_Expression_read k_Expression_read,
    b_Expression_read := (fun_mk (st := s_Expression_read) l_Expression_read c_Expression_read k_Expression_read).binds (ps := ["cls", "text"]) fun _ _ _ _ _ _ us hl => match us, hl with | [_, _], _ => rfl,
    cm_Expression_read := ⟨a_Expression_read, ⟨_, rc_Expression_read⟩, fi_Expression_read⟩,
    F_Expression_len := fun_mk (st := s_Expression_len) l_Expression_len c_Expression_len k_Expression_len,
    b_Expression_len := (fun_mk (st := s_Expression_len) l_Expression_len c_Expression_len k_Expression_len).binds (ps := ["self"]) fun _ _ _ _ _ _ us hl => match us, hl with | [_], _ => rfl,
    m_Expression_len := ⟨a_Expression_len, i_Expression_len, k_Expression_len⟩,
    F_Expression_str := fun_mk (st := s_Expression_str) l_Expression_str c_Expression_str k_Expression_str,
    b_Expression_str := (fun_mk (st := s_Expression_str) l_Expression_str c_Expression_str k_Expression_str).binds (ps := ["self"]) fun _ _ _ _ _ _ us hl => match us, hl with | [_], _ => rfl,
    m_Expression_str := ⟨a_Expression_str, i_Expression_str, k_Expression_str⟩,
    F_Expression_eq := fun_mk (st := s_Expression_eq) l_Expression_eq c_Expression_eq k_Expression_eq,
    b_Expression_eq := (fun_mk (st := s_Expression_eq) l_Expression_eq c_Expression_eq k_Expression_eq).binds (ps := ["self", "other"]) fun _ _ _ _ _ _ us hl => match us, hl with | [_, _], _ => rfl,
    m_Expression_eq := ⟨a_Expression_eq, i_Expression_eq, k_Expression_eq⟩,
    F_Expression_add := fun_mk (st := s_Expression_add) l_Expression_add c_Expression_add k_Expression_add,
    b_Expression_add := (fun_mk (st := s_Expression_add) l_Expression_add c_Expression_add k_Expression_add).binds (ps := ["self", "other"]) fun _ _ _ _ _ _ us hl => match us, hl with | [_, _], _ => rfl,
    m_Expression_add := ⟨a_Expression_add, i_Expression_add, k_Expression_add⟩,
    F_Expression_sub := fun_mk (st := s_Expression_sub) l_Expression_sub c_Expression_sub k_Expression_sub,
    b_Expression_sub := (fun_mk (st := s_Expression_sub) l_Expression_sub c_Expression_sub k_Expression_sub).binds (ps := ["self", "other"]) fun _ _ _ _ _ _ us hl => match us, hl with | [_, _], _ => rfl,
    m_Expression_sub := ⟨a_Expression_sub, i_Expression_sub, k_Expression_sub⟩,
    F_Expression_mul := fun_mk (st := s_Expression_mul) l_Expression_mul c_Expression_mul k_Expression_mul,
    b_Expression_mul := (fun_mk (st := s_Expression_mul) l_Expression_mul c_Expression_mul k_Expression_mul).binds (ps := ["self", "other"]) fun _ _ _ _ _ _ us hl => match us, hl with | [_, _], _ => rfl,
    m_Expression_mul := ⟨a_Expression_mul, i_Expression_mul, k_Expression_mul⟩,
    F_Expression_floordiv := fun_mk (st := s_Expression_floordiv) l_Expression_floordiv c_Expression_floordiv k_Expression_floordiv,
    b_Expression_floordiv := (fun_mk (st := s_Expression_floordiv) l_Expression_floordiv c_Expression_floordiv k_Expression_floordiv).binds (ps := ["self", "other"]) fun _ _ _ _ _ _ us hl => match us, hl with | [_, _], _ => rfl,
    m_Expression_floordiv := ⟨a_Expression_floordiv, i_Expression_floordiv, k_Expression_floordiv⟩,
    F_Expression_and := fun_mk (st := s_Expression_and) l_Expression_and c_Expression_and k_Expression_and,
    b_Expression_and := (fun_mk (st := s_Expression_and) l_Expression_and c_Expression_and k_Expression_and).binds (ps := ["self", "other"]) fun _ _ _ _ _ _ us hl => match us, hl with | [_, _], _ => rfl,
    m_Expression_and := ⟨a_Expression_and, i_Expression_and, k_Expression_and⟩,
    F_Expression_or := fun_mk (st := s_Expression_or) l_Expression_or c_Expression_or k_Expression_or,
    b_Expression_or := (fun_mk (st := s_Expression_or) l_Expression_or c_Expression_or k_Expression_or).binds (ps := ["self", "other"]) fun _ _ _ _ _ _ us hl => match us, hl with | [_, _], _ => rfl,
    m_Expression_or := ⟨a_Expression_or, i_Expression_or, k_Expression_or⟩,
    F_Expression_xor := fun_mk (st := s_Expression_xor) l_Expression_xor c_Expression_xor k_Expression_xor,
    b_Expression_xor := (fun_mk (st := s_Expression_xor) l_Expression_xor c_Expression_xor k_Expression_xor).binds (ps := ["self", "other"]) fun _ _ _ _ _ _ us hl => match us, hl with | [_, _], _ => rfl,
    m_Expression_xor := ⟨a_Expression_xor, i_Expression_xor, k_Expression_xor⟩,
    F_Expression_lshift := fun_mk (st := s_Expression_lshift) l_Expression_lshift c_Expression_lshift k_Expression_lshift,
    b_Expression_lshift := (fun_mk (st := s_Expression_lshift) l_Expression_lshift c_Expression_lshift k_Expression_lshift).binds (ps := ["self", "other"]) fun _ _ _ _ _ _ us hl => match us, hl with | [_, _], _ => rfl,
    m_Expression_lshift := ⟨a_Expression_lshift, i_Expression_lshift, k_Expression_lshift⟩,
    F_Expression_rshift := fun_mk (st := s_Expression_rshift) l_Expression_rshift c_Expression_rshift k_Expression_rshift,
    b_Expression_rshift := (fun_mk (st := s_Expression_rshift) l_Expression_rshift c_Expression_rshift k_Expression_rshift).binds (ps := ["self", "other"]) fun _ _ _ _ _ _ us hl => match us, hl with | [_, _], _ => rfl,
    m_Expression_rshift := ⟨a_Expression_rshift, i_Expression_rshift, k_Expression_rshift⟩,
    F_Expression_neg := fun_mk (st := s_Expression_neg) l_Expression_neg c_Expression_neg k_Expression_neg,
    b_Expression_neg := (fun_mk (st := s_Expression_neg) l_Expression_neg c_Expression_neg k_Expression_neg).binds (ps := ["self"]) fun _ _ _ _ _ _ us hl => match us, hl with | [_], _ => rfl,
    m_Expression_neg := ⟨a_Expression_neg, i_Expression_neg, k_Expression_neg⟩,
    F_Expression_pos := fun_mk (st := s_Expression_pos) l_Expression_pos c_Expression_pos k_Expression_pos,
    b_Expression_pos := (fun_mk (st := s_Expression_pos) l_Expression_pos c_Expression_pos k_Expression_pos).binds (ps := ["self"]) fun _ _ _ _ _ _ us hl => match us, hl with | [_], _ => rfl,
    m_Expression_pos := ⟨a_Expression_pos, i_Expression_pos, k_Expression_pos⟩,
    F_Expression_invert := fun_mk (st := s_Expression_invert) l_Expression_invert c_Expression_invert k_Expression_invert,
    b_Expression_invert := (fun_mk (st := s_Expression_invert) l_Expression_invert c_Expression_invert k_Expression_invert).binds (ps := ["self"]) fun _ _ _ _ _ _ us hl => match us, hl with | [_], _ => rfl,
    m_Expression_invert := ⟨a_Expression_invert, i_Expression_invert, k_Expression_invert⟩,
    F_Expression_abs := fun_mk (st := s_Expression_abs) l_Expression_abs c_Expression_abs k_Expression_abs,
    b_Expression_abs := (fun_mk (st := s_Expression_abs) l_Expression_abs c_Expression_abs k_Expression_abs).binds (ps := ["self"]) fun _ _ _ _ _ _ us hl => match us, hl with | [_], _ => rfl,
    m_Expression_abs := ⟨a_Expression_abs, i_Expression_abs, k_Expression_abs⟩,
    F_Expression_rmul := fun_mk (st := s_Expression_rmul) l_Expression_rmul c_Expression_rmul k_Expression_rmul,
    b_Expression_rmul := (fun_mk (st := s_Expression_rmul) l_Expression_rmul c_Expression_rmul k_Expression_rmul).binds (ps := ["self", "other"]) fun _ _ _ _ _ _ us hl => match us, hl with | [_, _], _ => rfl,
    m_Expression_rmul := ⟨a_Expression_rmul, i_Expression_rmul, k_Expression_rmul⟩,
    F_Expression_pow := fun_mk (st := s_Expression_pow) l_Expression_pow c_Expression_pow k_Expression_pow,
    b_Expression_pow := (fun_mk (st := s_Expression_pow) l_Expression_pow c_Expression_pow k_Expression_pow).binds (ps := ["self", "other"]) fun _ _ _ _ _ _ us hl => match us, hl with | [_, _], _ => rfl,
    m_Expression_pow := ⟨a_Expression_pow, i_Expression_pow, k_Expression_pow⟩,
    F_count_steps := fun_mk (st := s_count_steps) l_count_steps c_count_steps k_count_steps,
    b_count_steps := (fun_mk (st := s_count_steps) l_count_steps c_count_steps k_count_steps).binds (ps := ["program"]) fun _ _ _ _ _ _ us hl => match us, hl with | [_], _ => rfl,
    g_count_steps := PySem.W.mg_of X G a_count_steps,
    F_binary := fun_mk (st := s_binary) l_binary c_binary k_binary,
    b_binary := (fun_mk (st := s_binary) l_binary c_binary k_binary).binds (ps := ["sign", "one", "other"]) fun _ _ _ _ _ _ us hl => match us, hl with | [_, _, _], _ => rfl,
    g_binary := PySem.W.mg_of X G a_binary,
    F_unary := fun_mk (st := s_unary) l_unary c_unary k_unary,
    b_unary := (fun_mk (st := s_unary) l_unary c_unary k_unary).binds (ps := ["sign", "one"]) fun _ _ _ _ _ _ us hl => match us, hl with | [_, _], _ => rfl,
    g_unary := PySem.W.mg_of X G a_unary,
    F_repeated := fun_mk (st := s_repeated) l_repeated c_repeated k_repeated,
    b_repeated := (fun_mk (st := s_repeated) l_repeated c_repeated k_repeated).binds (ps := ["sign", "one", "many"]) fun _ _ _ _ _ _ us hl => match us, hl with | [_, _, _], _ => rfl,
    g_repeated := PySem.W.mg_of X G a_repeated,
    F_Reader_init := fun_mk (st := s_Reader_init) l_Reader_init c_Reader_init k_Reader_init,
    b_Reader_init := (fun_mk (st := s_Reader_init) l_Reader_init c_Reader_init k_Reader_init).binds (ps := ["self", "text"]) fun _ _ _ _ _ _ us hl => match us, hl with | [_, _], _ => rfl,
    m_Reader_init := ⟨a_Reader_init, i_Reader_init, k_Reader_init⟩,
    F_Reader_whole := fun_mk (st := s_Reader_whole) l_Reader_whole c_Reader_whole k_Reader_whole,
    b_Reader_whole := (fun_mk (st := s_Reader_whole) l_Reader_whole c_Reader_whole k_Reader_whole).binds (ps := ["self"]) fun _ _ _ _ _ _ us hl => match us, hl with | [_], _ => rfl,
    m_Reader_whole := ⟨a_Reader_whole, i_Reader_whole, k_Reader_whole⟩,
    F_Reader_here := fun_mk (st := s_Reader_here) l_Reader_here c_Reader_here k_Reader_here,
    b_Reader_here := (fun_mk (st := s_Reader_here) l_Reader_here c_Reader_here k_Reader_here).binds (ps := ["self"]) fun _ _ _ _ _ _ us hl => match us, hl with | [_], _ => rfl,
    m_Reader_here := ⟨a_Reader_here, i_Reader_here, k_Reader_here⟩,
    F_Reader_skip := fun_mk (st := s_Reader_skip) l_Reader_skip c_Reader_skip k_Reader_skip,
    b_Reader_skip := (fun_mk (st := s_Reader_skip) l_Reader_skip c_Reader_skip k_Reader_skip).binds (ps := ["self", "some"]) fun _ _ _ _ _ _ us hl => match us, hl with | [_, _], _ => rfl,
    m_Reader_skip := ⟨a_Reader_skip, i_Reader_skip, k_Reader_skip⟩,
    F_Reader_letters := fun_mk (st := s_Reader_letters) l_Reader_letters c_Reader_letters k_Reader_letters,
    b_Reader_letters := (fun_mk (st := s_Reader_letters) l_Reader_letters c_Reader_letters k_Reader_letters).binds (ps := ["self", "many"]) fun _ _ _ _ _ _ us hl => match us, hl with | [_, _], _ => rfl,
    m_Reader_letters := ⟨a_Reader_letters, i_Reader_letters, k_Reader_letters⟩,
    F_Reader_go_in := fun_mk (st := s_Reader_go_in) l_Reader_go_in c_Reader_go_in k_Reader_go_in,
    b_Reader_go_in := (fun_mk (st := s_Reader_go_in) l_Reader_go_in c_Reader_go_in k_Reader_go_in).binds (ps := ["self", "sign", "many"]) fun _ _ _ _ _ _ us hl => match us, hl with | [_, _, _], _ => rfl,
    m_Reader_go_in := ⟨a_Reader_go_in, i_Reader_go_in, k_Reader_go_in⟩,
    F_Reader_is_opened := fun_mk (st := s_Reader_is_opened) l_Reader_is_opened c_Reader_is_opened k_Reader_is_opened,
    b_Reader_is_opened := (fun_mk (st := s_Reader_is_opened) l_Reader_is_opened c_Reader_is_opened k_Reader_is_opened).binds (ps := ["self"]) fun _ _ _ _ _ _ us hl => match us, hl with | [_], _ => rfl,
    m_Reader_is_opened := ⟨a_Reader_is_opened, i_Reader_is_opened, k_Reader_is_opened⟩,
    F_Reader_class_name := fun_mk (st := s_Reader_class_name) l_Reader_class_name c_Reader_class_name k_Reader_class_name,
    b_Reader_class_name := (fun_mk (st := s_Reader_class_name) l_Reader_class_name c_Reader_class_name k_Reader_class_name).binds (ps := ["self"]) fun _ _ _ _ _ _ us hl => match us, hl with | [_], _ => rfl,
    m_Reader_class_name := ⟨a_Reader_class_name, i_Reader_class_name, k_Reader_class_name⟩,
    F_Reader_read_request := fun_mk (st := s_Reader_read_request) l_Reader_read_request c_Reader_read_request k_Reader_read_request,
    b_Reader_read_request := (fun_mk (st := s_Reader_read_request) l_Reader_read_request c_Reader_read_request k_Reader_read_request).binds (ps := ["self"]) fun _ _ _ _ _ _ us hl => match us, hl with | [_], _ => rfl,
    m_Reader_read_request := ⟨a_Reader_read_request, i_Reader_read_request, k_Reader_read_request⟩,
    F_Reader_close := fun_mk (st := s_Reader_close) l_Reader_close c_Reader_close k_Reader_close,
    b_Reader_close := (fun_mk (st := s_Reader_close) l_Reader_close c_Reader_close k_Reader_close).binds (ps := ["self"]) fun _ _ _ _ _ _ us hl => match us, hl with | [_], _ => rfl,
    m_Reader_close := ⟨a_Reader_close, i_Reader_close, k_Reader_close⟩,
    F_Reader_read_sign := fun_mk (st := s_Reader_read_sign) l_Reader_read_sign c_Reader_read_sign k_Reader_read_sign,
    b_Reader_read_sign := (fun_mk (st := s_Reader_read_sign) l_Reader_read_sign c_Reader_read_sign k_Reader_read_sign).binds (ps := ["self"]) fun _ _ _ _ _ _ us hl => match us, hl with | [_], _ => rfl,
    m_Reader_read_sign := ⟨a_Reader_read_sign, i_Reader_read_sign, k_Reader_read_sign⟩,
    F_law_bag := fun_mk (st := s_law_bag) l_law_bag c_law_bag k_law_bag,
    b_law_bag := (fun_mk (st := s_law_bag) l_law_bag c_law_bag k_law_bag).binds (ps := ["_law_script", "_law_at"]) fun _ _ _ _ _ _ us hl => match us, hl with | [_, _], _ => rfl,
    g_law_bag := PySem.W.mg_of X G a_law_bag,
    F_law_take := fun_mk (st := s_law_take) l_law_take c_law_take k_law_take,
    b_law_take := (fun_mk (st := s_law_take) l_law_take c_law_take k_law_take).binds (ps := ["_law_bag_here", "_law_many"]) fun _ _ _ _ _ _ us hl => match us, hl with | [_, _], _ => rfl,
    g_law_take := PySem.W.mg_of X G a_law_take,
    F_law_of := fun_mk (st := s_law_of) l_law_of c_law_of k_law_of,
    b_law_of := (fun_mk (st := s_law_of) l_law_of c_law_of k_law_of).binds (ps := ["_law_bag_here", "_law_some"]) fun _ _ _ _ _ _ us hl => match us, hl with | [_, _], _ => rfl,
    g_law_of := PySem.W.mg_of X G a_law_of,
    F_law_joined := fun_mk (st := s_law_joined) l_law_joined c_law_joined k_law_joined,
    b_law_joined := (fun_mk (st := s_law_joined) l_law_joined c_law_joined k_law_joined).binds (ps := ["_law_sign", "_law_one", "_law_other"]) fun _ _ _ _ _ _ us hl => match us, hl with | [_, _, _], _ => rfl,
    g_law_joined := PySem.W.mg_of X G a_law_joined,
    F_law_marked := fun_mk (st := s_law_marked) l_law_marked c_law_marked k_law_marked,
    b_law_marked := (fun_mk (st := s_law_marked) l_law_marked c_law_marked k_law_marked).binds (ps := ["_law_sign", "_law_one"]) fun _ _ _ _ _ _ us hl => match us, hl with | [_, _], _ => rfl,
    g_law_marked := PySem.W.mg_of X G a_law_marked,
    F_law_long := fun_mk (st := s_law_long) l_law_long c_law_long k_law_long,
    b_law_long := (fun_mk (st := s_law_long) l_law_long c_law_long k_law_long).binds (ps := ["_law_bag_here", "_law_many"]) fun _ _ _ _ _ _ us hl => match us, hl with | [_, _], _ => rfl,
    g_law_long := PySem.W.mg_of X G a_law_long,
    F_law_joined_right := fun_mk (st := s_law_joined_right) l_law_joined_right c_law_joined_right k_law_joined_right,
    b_law_joined_right := (fun_mk (st := s_law_joined_right) l_law_joined_right c_law_joined_right k_law_joined_right).binds (ps := ["_law_sign", "_law_one", "_law_other", "_law_many"]) fun _ _ _ _ _ _ us hl => match us, hl with | [_, _, _, _], _ => rfl,
    g_law_joined_right := PySem.W.mg_of X G a_law_joined_right,
    F_law_marked_right := fun_mk (st := s_law_marked_right) l_law_marked_right c_law_marked_right k_law_marked_right,
    b_law_marked_right := (fun_mk (st := s_law_marked_right) l_law_marked_right c_law_marked_right k_law_marked_right).binds (ps := ["_law_sign", "_law_one", "_law_many"]) fun _ _ _ _ _ _ us hl => match us, hl with | [_, _, _], _ => rfl,
    g_law_marked_right := PySem.W.mg_of X G a_law_marked_right,
    F_law_power := fun_mk (st := s_law_power) l_law_power c_law_power k_law_power,
    b_law_power := (fun_mk (st := s_law_power) l_law_power c_law_power k_law_power).binds (ps := ["_law_one", "_law_times"]) fun _ _ _ _ _ _ us hl => match us, hl with | [_, _], _ => rfl,
    g_law_power := PySem.W.mg_of X G a_law_power,
    F_law_times_right := fun_mk (st := s_law_times_right) l_law_times_right c_law_times_right k_law_times_right,
    b_law_times_right := (fun_mk (st := s_law_times_right) l_law_times_right c_law_times_right k_law_times_right).binds (ps := ["_law_one", "_law_times", "_law_many"]) fun _ _ _ _ _ _ us hl => match us, hl with | [_, _, _], _ => rfl,
    g_law_times_right := PySem.W.mg_of X G a_law_times_right,
    F_law := fun_mk (st := s_law) l_law c_law k_law,
    b_law := (fun_mk (st := s_law) l_law c_law k_law).binds (ps := ["_law_script"]) fun _ _ _ _ _ _ us hl => match us, hl with | [_], _ => rfl,
    g_law := PySem.W.mg_of X G a_law,
    g_Expression := PySem.W.mg_of X G a_C_Expression,
    cl_Expression := ⟨pg_Expression, hd_Expression, po_Expression, sa_Expression⟩,
    ty_Expression := ⟨⟨pg_Expression, hd_Expression, po_Expression, sa_Expression⟩, hc_Expression, hnC, htC, mo_Expression, ic_Expression, ty_Expression⟩,
    cr_Expression := ⟨rd_Expression, ga_Expression⟩,
    mk_Expression := ⟨mk_Expression, a_Expression_init, i_Expression_init, kc_Expression⟩,
    ne_Expression := ⟨ne_Expression, mo_Expression⟩,
    sf_Expression := sf_Expression,
    no_Expression_text := no_Expression_text,
    no_Expression_program := no_Expression_program,
    g_Reader := PySem.W.mg_of X G a_C_Reader,
    cl_Reader := ⟨pg_Reader, hd_Reader, po_Reader, sa_Reader⟩,
    ty_Reader := ⟨⟨pg_Reader, hd_Reader, po_Reader, sa_Reader⟩, hc_Reader, hnC, htC, mo_Reader, ic_Reader, ty_Reader⟩,
    cr_Reader := ⟨rd_Reader, ga_Reader⟩,
    mk_Reader := ⟨mk_Reader, a_Reader_init, i_Reader_init, kc_Reader⟩,
    no_Reader_text := no_Reader_text,
    no_Reader_at := no_Reader_at,
    no_Reader_nested := no_Reader_nested,
    no_Reader_rows := no_Reader_rows,
    g_BadExpression := PySem.W.mg_of X G a_C_BadExpression,
    ty_BadExpression := ty_BadExpression,
    ic_BadExpression := ic_BadExpression,
    sb_BadExpression := sb_BadExpression,
    ox_BadExpression := ⟨⟨_, _, _, _, _, _, _, _, _, _, _, _, _, _, _, lk_BadExpression, rv_BadExpression⟩, sa_BadExpression, sb_BadExpression, ty_BadExpression, kc_BadExpression⟩,
    xt_BadExpression := xt_BadExpression,
    no_BadExpression_at := no_BadExpression_at,
    g_TooMany := PySem.W.mg_of X G a_C_TooMany,
    ty_TooMany := ty_TooMany,
    ic_TooMany := ic_TooMany,
    sb_TooMany := sb_TooMany,
    xf_TooMany := ⟨ga_TooMany, gg_TooMany, sb_TooMany, hd_TooMany⟩,
    xc_TooMany := ⟨ga_TooMany, gg_TooMany, sb_TooMany, hd_TooMany, hc_TooMany, hnC, htC, mo_TooMany⟩,
    ox_TooMany := ⟨⟨_, _, _, _, _, _, _, _, _, _, _, _, _, _, _, lk_TooMany, rv_TooMany⟩, sa_TooMany, sb_TooMany, ty_TooMany, kc_TooMany⟩,
    xt_TooMany := xt_TooMany,
    no_TooMany_what := no_TooMany_what,
    g_HeirsbackError := PySem.W.mg_of X G a_C_HeirsbackError,
    ty_HeirsbackError := ty_HeirsbackError,
    ic_HeirsbackError := ic_HeirsbackError,
    sb_HeirsbackError := sb_HeirsbackError,
    g_MOST := PySem.W.mg_of X G a_MOST,
    g_SMALL := PySem.W.mg_of X G a_SMALL,
    g_CAPITAL := PySem.W.mg_of X G a_CAPITAL,
    g_LONGEST := PySem.W.mg_of X G a_LONGEST,
    g_LEAF := PySem.W.mg_of X G a_LEAF,
    g_ASKED := PySem.W.mg_of X G a_ASKED,
    g_UNARY_SIGNS := PySem.W.mg_of X G a_UNARY_SIGNS,
    q_UNARY_SIGNS := fun _ => .inr ⟨_, _, _, lk_UNARY_SIGNS, rfl, rfl, (by show 4 ≤ sizeLine; decide), .cons ⟨_, rfl⟩ (.cons ⟨_, rfl⟩ (.cons ⟨_, rfl⟩ (.cons ⟨_, rfl⟩ (.nil))))⟩,
    g_DONE := PySem.W.mg_of X G a_DONE,
    xr_Expression_pow := xr_Expression_pow,
    xi_Expression_pow := xi_Expression_pow,
    xj_Expression_pow := xj_Expression_pow,
    xs_Expression_int := xs_Expression_int,
    xt_Expression_int := xt_Expression_int,
    su_tt := su_tt,
    su_th := su_th,
    xhd_hb := xhd_hb,
    xhd_tm := xhd_tm,
    xe_str := xe_str,
    n_abs := PySem.W.mg_none_of X G n_abs,
    n_bool := PySem.W.mg_none_of X G n_bool,
    n_enumerate := PySem.W.mg_none_of X G n_enumerate,
    n_int := PySem.W.mg_none_of X G n_int,
    n_isinstance := PySem.W.mg_none_of X G n_isinstance,
    n_len := PySem.W.mg_none_of X G n_len,
    n_list := PySem.W.mg_none_of X G n_list,
    n_max := PySem.W.mg_none_of X G n_max,
    n_min := PySem.W.mg_none_of X G n_min,
    n_range := PySem.W.mg_none_of X G n_range,
    n_str := PySem.W.mg_none_of X G n_str,
    n_tuple := PySem.W.mg_none_of X G n_tuple }
  exact ⟨_, fun s v => .of_eq rfl, fun base _ _ => ok_law T⟩
theorem walk {l : PySem.W.OpenLaw} {q : Program} {loose : List Str} {XP : (Str → Option Value) → Heap → Prop} {YP : World → Heap → Prop} {d : DefRec} {K : Params → PySem.W.Frag} (hn : l.most = some 63) (hdf : d.params.defaults = [])
    (hY : ∀ (w : World) (h : Heap), YP w h → (K w.params).In h)
    (F : ∀ (w : World) (mg : Str → Option Value) (fa : Addr) (h : Heap), (K w.params).In h → h.Ns mainGlobals mg → mg d.name = some (.ref fa) →
      ∃ fd : FuncData, (∀ (s : Shared) (u : Value), BindsTo s fd ⟨[u], []⟩ [("_law_script", u)]) ∧ ∀ base : Heap, (K w.params).In base → base.Ns mainGlobals mg → FnOk l.prog w (K w.params) mg base CX0 8 fa fd ["_law_script"] (sp_law (K w.params))) :
    PySem.W.WalkO q loose XP YP l.row.toRowW d [] (fun f vs => PySem.call f vs) :=
  L2.walk_ofB (n := 63) (k := 8) (x := "_law_script") (CX := fun _ => CX0) (sp := fun w => sp_law (K w.params)) hn (by decide) hdf ⟨rfl, by decide, by decide⟩ hY F (fun _ _ a ns hl hb _ hS => ⟨a, ns, rfl, hS, hl, fun _ => rfl⟩) fun _ _ _ _ _ z => z
end Ex
open PySem PySem.W PyProof.Rows
set_option maxRecDepth 100000 in
set_option maxHeartbeats 0 in
theorem PySem.Challenge.cw_heirsback_k33_too_many_steps_holds : PySem.Challenge.rw_heirsback_k33_too_many_steps.Holds := by
  refine hd ?_
  k_fill
  refine Ex.walk (l := PySem.Challenge.rw_heirsback_k33_too_many_steps) rfl rfl (fun w h Y => PySem.W.kIn_of Y) ?F
  case F =>
    intro w mg fa h KX G hmg
    have hmg : mg "law" = some (.ref fa) := hmg
    refine' Ex.all_mk KX G hmg ?a_C_Expression ?a_C_Reader ?a_C_BadExpression ?a_C_TooMany ?a_C_HeirsbackError ?a_BadExpression_init ?i_BadExpression_init ?l_BadExpression_init ?c_BadExpression_init ?k_BadExpression_init ?a_TooMany_init ?i_TooMany_init ?l_TooMany_init ?c_TooMany_init ?k_TooMany_init ?a_Expression_init ?i_Expression_init ?l_Expression_init ?c_Expression_init ?k_Expression_init ?a_Expression_leaf ?rc_Expression_leaf ?l_Expression_leaf ?c_Expression_leaf ?k_Expression_leaf ?a_Expression_asked ?rc_Expression_asked ?l_Expression_asked ?c_Expression_asked ?k_Expression_asked ?a_Expression_read ?rc_Expression_read ?fi_Expression_read ?l_Expression_read ?c_Expression_read ?k_Expression_read ?a_Expression_len ?i_Expression_len ?l_Expression_len ?c_Expression_len ?k_Expression_len ?a_Expression_str ?i_Expression_str ?l_Expression_str ?c_Expression_str ?k_Expression_str ?a_Expression_eq ?i_Expression_eq ?l_Expression_eq ?c_Expression_eq ?k_Expression_eq ?a_Expression_add ?i_Expression_add ?l_Expression_add ?c_Expression_add ?k_Expression_add ?a_Expression_sub ?i_Expression_sub ?l_Expression_sub ?c_Expression_sub ?k_Expression_sub ?a_Expression_mul ?i_Expression_mul ?l_Expression_mul ?c_Expression_mul ?k_Expression_mul ?a_Expression_floordiv ?i_Expression_floordiv ?l_Expression_floordiv ?c_Expression_floordiv ?k_Expression_floordiv ?a_Expression_and ?i_Expression_and ?l_Expression_and ?c_Expression_and ?k_Expression_and ?a_Expression_or ?i_Expression_or ?l_Expression_or ?c_Expression_or ?k_Expression_or ?a_Expression_xor ?i_Expression_xor ?l_Expression_xor ?c_Expression_xor ?k_Expression_xor ?a_Expression_lshift ?i_Expression_lshift ?l_Expression_lshift ?c_Expression_lshift ?k_Expression_lshift ?a_Expression_rshift ?i_Expression_rshift ?l_Expression_rshift ?c_Expression_rshift ?k_Expression_rshift ?a_Expression_neg ?i_Expression_neg ?l_Expression_neg ?c_Expression_neg ?k_Expression_neg ?a_Expression_pos ?i_Expression_pos ?l_Expression_pos ?c_Expression_pos ?k_Expression_pos ?a_Expression_invert ?i_Expression_invert ?l_Expression_invert ?c_Expression_invert ?k_Expression_invert ?a_Expression_abs ?i_Expression_abs ?l_Expression_abs ?c_Expression_abs ?k_Expression_abs ?a_Expression_rmul ?i_Expression_rmul ?l_Expression_rmul ?c_Expression_rmul ?k_Expression_rmul ?a_Expression_pow ?i_Expression_pow ?l_Expression_pow ?c_Expression_pow ?k_Expression_pow ?a_count_steps ?l_count_steps ?c_count_steps ?k_count_steps ?a_binary ?l_binary ?c_binary ?k_binary ?a_unary ?l_unary ?c_unary ?k_unary ?a_repeated ?l_repeated ?c_repeated ?k_repeated ?a_Reader_init ?i_Reader_init ?l_Reader_init ?c_Reader_init ?k_Reader_init ?a_Reader_whole ?i_Reader_whole ?l_Reader_whole ?c_Reader_whole ?k_Reader_whole ?a_Reader_here ?i_Reader_here ?l_Reader_here ?c_Reader_here ?k_Reader_here ?a_Reader_skip ?i_Reader_skip ?l_Reader_skip ?c_Reader_skip ?k_Reader_skip ?a_Reader_letters ?i_Reader_letters ?l_Reader_letters ?c_Reader_letters ?k_Reader_letters ?a_Reader_go_in ?i_Reader_go_in ?l_Reader_go_in ?c_Reader_go_in ?k_Reader_go_in ?a_Reader_is_opened ?i_Reader_is_opened ?l_Reader_is_opened ?c_Reader_is_opened ?k_Reader_is_opened ?a_Reader_class_name ?i_Reader_class_name ?l_Reader_class_name ?c_Reader_class_name ?k_Reader_class_name ?a_Reader_read_request ?i_Reader_read_request ?l_Reader_read_request ?c_Reader_read_request ?k_Reader_read_request ?a_Reader_close ?i_Reader_close ?l_Reader_close ?c_Reader_close ?k_Reader_close ?a_Reader_read_sign ?i_Reader_read_sign ?l_Reader_read_sign ?c_Reader_read_sign ?k_Reader_read_sign ?a_law_bag ?l_law_bag ?c_law_bag ?k_law_bag ?a_law_take ?l_law_take ?c_law_take ?k_law_take ?a_law_of ?l_law_of ?c_law_of ?k_law_of ?a_law_joined ?l_law_joined ?c_law_joined ?k_law_joined ?a_law_marked ?l_law_marked ?c_law_marked ?k_law_marked ?a_law_long ?l_law_long ?c_law_long ?k_law_long ?a_law_joined_right ?l_law_joined_right ?c_law_joined_right ?k_law_joined_right ?a_law_marked_right ?l_law_marked_right ?c_law_marked_right ?k_law_marked_right ?a_law_power ?l_law_power ?c_law_power ?k_law_power ?a_law_times_right ?l_law_times_right ?c_law_times_right ?k_law_times_right ?a_law ?l_law ?c_law ?k_law ?pg_Expression ?hd_Expression ?po_Expression ?sa_Expression ?mk_Expression ?kc_Expression ?rd_Expression ?ga_Expression ?mo_Expression ?hc_Expression ?ic_Expression ?ty_Expression ?ne_Expression ?sf_Expression ?no_Expression_text ?no_Expression_program ?pg_Reader ?hd_Reader ?po_Reader ?sa_Reader ?mk_Reader ?kc_Reader ?rd_Reader ?ga_Reader ?mo_Reader ?hc_Reader ?ic_Reader ?ty_Reader ?no_Reader_text ?no_Reader_at ?no_Reader_nested ?no_Reader_rows ?ty_BadExpression ?ic_BadExpression ?sb_BadExpression ?lk_BadExpression ?rv_BadExpression ?sa_BadExpression ?kc_BadExpression ?xt_BadExpression ?no_BadExpression_at ?ty_TooMany ?ic_TooMany ?sb_TooMany ?lk_TooMany ?rv_TooMany ?sa_TooMany ?kc_TooMany ?xt_TooMany ?no_TooMany_what ?ga_TooMany ?gg_TooMany ?hd_TooMany ?hc_TooMany ?mo_TooMany ?ty_HeirsbackError ?ic_HeirsbackError ?sb_HeirsbackError ?hnC ?htC ?a_MOST ?a_SMALL ?a_CAPITAL ?a_LONGEST ?a_LEAF ?a_ASKED ?a_UNARY_SIGNS ?lk_UNARY_SIGNS ?a_DONE ?xr_Expression_pow ?xi_Expression_pow ?xj_Expression_pow ?xs_Expression_int ?xt_Expression_int ?su_tt ?su_th ?xhd_hb ?xhd_tm ?xe_str ?n_abs ?n_bool ?n_enumerate ?n_int ?n_isinstance ?n_len ?n_list ?n_max ?n_min ?n_range ?n_str ?n_tuple
    (case a_C_Expression => k_is)
    (case a_C_Reader => k_is)
    (case a_C_BadExpression => k_is)
    (case a_C_TooMany => k_is)
    (case a_C_HeirsbackError => k_is)
    (case a_BadExpression_init => k_is)
    (case i_BadExpression_init => k_is)
    (case l_BadExpression_init => k_is)
    (case c_BadExpression_init => k_is)
    (case k_BadExpression_init => k_is)
    (case a_TooMany_init => k_is)
    (case i_TooMany_init => k_is)
    (case l_TooMany_init => k_is)
    (case c_TooMany_init => k_is)
    (case k_TooMany_init => k_is)
    (case a_Expression_init => k_is)
    (case i_Expression_init => k_is)
    (case l_Expression_init => k_is)
    (case c_Expression_init => k_is)
    (case k_Expression_init => k_is)
    (case a_Expression_leaf => k_is)
    (case rc_Expression_leaf => k_is)
    (case l_Expression_leaf => k_is)
    (case c_Expression_leaf => k_is)
    (case k_Expression_leaf => k_is)
    (case a_Expression_asked => k_is)
    (case rc_Expression_asked => k_is)
    (case l_Expression_asked => k_is)
    (case c_Expression_asked => k_is)
    (case k_Expression_asked => k_is)
    (case a_Expression_read => k_is)
    (case rc_Expression_read => k_is)
    (case fi_Expression_read => k_is)
    (case l_Expression_read => k_is)
    (case c_Expression_read => k_is)
    (case k_Expression_read => k_is)
    (case a_Expression_len => k_is)
    (case i_Expression_len => k_is)
    (case l_Expression_len => k_is)
    (case c_Expression_len => k_is)
    (case k_Expression_len => k_is)
    (case a_Expression_str => k_is)
    (case i_Expression_str => k_is)
    (case l_Expression_str => k_is)
    (case c_Expression_str => k_is)
    (case k_Expression_str => k_is)
    (case a_Expression_eq => k_is)
    (case i_Expression_eq => k_is)
    (case l_Expression_eq => k_is)
    (case c_Expression_eq => k_is)
    (case k_Expression_eq => k_is)
    (case a_Expression_add => k_is)
    (case i_Expression_add => k_is)
    (case l_Expression_add => k_is)
    (case c_Expression_add => k_is)
    (case k_Expression_add => k_is)
    (case a_Expression_sub => k_is)
    (case i_Expression_sub => k_is)
    (case l_Expression_sub => k_is)
    (case c_Expression_sub => k_is)
    (case k_Expression_sub => k_is)
    (case a_Expression_mul => k_is)
    (case i_Expression_mul => k_is)
    (case l_Expression_mul => k_is)
    (case c_Expression_mul => k_is)
    (case k_Expression_mul => k_is)
    (case a_Expression_floordiv => k_is)
    (case i_Expression_floordiv => k_is)
    (case l_Expression_floordiv => k_is)
    (case c_Expression_floordiv => k_is)
    (case k_Expression_floordiv => k_is)
    (case a_Expression_and => k_is)
    (case i_Expression_and => k_is)
    (case l_Expression_and => k_is)
    (case c_Expression_and => k_is)
    (case k_Expression_and => k_is)
    (case a_Expression_or => k_is)
    (case i_Expression_or => k_is)
    (case l_Expression_or => k_is)
    (case c_Expression_or => k_is)
    (case k_Expression_or => k_is)
    (case a_Expression_xor => k_is)
    (case i_Expression_xor => k_is)
    (case l_Expression_xor => k_is)
    (case c_Expression_xor => k_is)
    (case k_Expression_xor => k_is)
    (case a_Expression_lshift => k_is)
    (case i_Expression_lshift => k_is)
    (case l_Expression_lshift => k_is)
    (case c_Expression_lshift => k_is)
    (case k_Expression_lshift => k_is)
    (case a_Expression_rshift => k_is)
    (case i_Expression_rshift => k_is)
    (case l_Expression_rshift => k_is)
    (case c_Expression_rshift => k_is)
    (case k_Expression_rshift => k_is)
    (case a_Expression_neg => k_is)
    (case i_Expression_neg => k_is)
    (case l_Expression_neg => k_is)
    (case c_Expression_neg => k_is)
    (case k_Expression_neg => k_is)
    (case a_Expression_pos => k_is)
    (case i_Expression_pos => k_is)
    (case l_Expression_pos => k_is)
    (case c_Expression_pos => k_is)
    (case k_Expression_pos => k_is)
    (case a_Expression_invert => k_is)
    (case i_Expression_invert => k_is)
    (case l_Expression_invert => k_is)
    (case c_Expression_invert => k_is)
    (case k_Expression_invert => k_is)
    (case a_Expression_abs => k_is)
    (case i_Expression_abs => k_is)
    (case l_Expression_abs => k_is)
    (case c_Expression_abs => k_is)
    (case k_Expression_abs => k_is)
    (case a_Expression_rmul => k_is)
    (case i_Expression_rmul => k_is)
    (case l_Expression_rmul => k_is)
    (case c_Expression_rmul => k_is)
    (case k_Expression_rmul => k_is)
    (case a_Expression_pow => k_is)
    (case i_Expression_pow => k_is)
    (case l_Expression_pow => k_is)
    (case c_Expression_pow => k_is)
    (case k_Expression_pow => k_is)
    (case a_count_steps => k_is)
    (case l_count_steps => k_is)
    (case c_count_steps => k_is)
    (case k_count_steps => k_is)
    (case a_binary => k_is)
    (case l_binary => k_is)
    (case c_binary => k_is)
    (case k_binary => k_is)
    (case a_unary => k_is)
    (case l_unary => k_is)
    (case c_unary => k_is)
    (case k_unary => k_is)
    (case a_repeated => k_is)
    (case l_repeated => k_is)
    (case c_repeated => k_is)
    (case k_repeated => k_is)
    (case a_Reader_init => k_is)
    (case i_Reader_init => k_is)
    (case l_Reader_init => k_is)
    (case c_Reader_init => k_is)
    (case k_Reader_init => k_is)
    (case a_Reader_whole => k_is)
    (case i_Reader_whole => k_is)
    (case l_Reader_whole => k_is)
    (case c_Reader_whole => k_is)
    (case k_Reader_whole => k_is)
    (case a_Reader_here => k_is)
    (case i_Reader_here => k_is)
    (case l_Reader_here => k_is)
    (case c_Reader_here => k_is)
    (case k_Reader_here => k_is)
    (case a_Reader_skip => k_is)
    (case i_Reader_skip => k_is)
    (case l_Reader_skip => k_is)
    (case c_Reader_skip => k_is)
    (case k_Reader_skip => k_is)
    (case a_Reader_letters => k_is)
    (case i_Reader_letters => k_is)
    (case l_Reader_letters => k_is)
    (case c_Reader_letters => k_is)
    (case k_Reader_letters => k_is)
    (case a_Reader_go_in => k_is)
    (case i_Reader_go_in => k_is)
    (case l_Reader_go_in => k_is)
    (case c_Reader_go_in => k_is)
    (case k_Reader_go_in => k_is)
    (case a_Reader_is_opened => k_is)
    (case i_Reader_is_opened => k_is)
    (case l_Reader_is_opened => k_is)
    (case c_Reader_is_opened => k_is)
    (case k_Reader_is_opened => k_is)
    (case a_Reader_class_name => k_is)
    (case i_Reader_class_name => k_is)
    (case l_Reader_class_name => k_is)
    (case c_Reader_class_name => k_is)
    (case k_Reader_class_name => k_is)
    (case a_Reader_read_request => k_is)
    (case i_Reader_read_request => k_is)
    (case l_Reader_read_request => k_is)
    (case c_Reader_read_request => k_is)
    (case k_Reader_read_request => k_is)
    (case a_Reader_close => k_is)
    (case i_Reader_close => k_is)
    (case l_Reader_close => k_is)
    (case c_Reader_close => k_is)
    (case k_Reader_close => k_is)
    (case a_Reader_read_sign => k_is)
    (case i_Reader_read_sign => k_is)
    (case l_Reader_read_sign => k_is)
    (case c_Reader_read_sign => k_is)
    (case k_Reader_read_sign => k_is)
    (case a_law_bag => k_is)
    (case l_law_bag => k_is)
    (case c_law_bag => k_is)
    (case k_law_bag => k_is)
    (case a_law_take => k_is)
    (case l_law_take => k_is)
    (case c_law_take => k_is)
    (case k_law_take => k_is)
    (case a_law_of => k_is)
    (case l_law_of => k_is)
    (case c_law_of => k_is)
    (case k_law_of => k_is)
    (case a_law_joined => k_is)
    (case l_law_joined => k_is)
    (case c_law_joined => k_is)
    (case k_law_joined => k_is)
    (case a_law_marked => k_is)
    (case l_law_marked => k_is)
    (case c_law_marked => k_is)
    (case k_law_marked => k_is)
    (case a_law_long => k_is)
    (case l_law_long => k_is)
    (case c_law_long => k_is)
    (case k_law_long => k_is)
    (case a_law_joined_right => k_is)
    (case l_law_joined_right => k_is)
    (case c_law_joined_right => k_is)
    (case k_law_joined_right => k_is)
    (case a_law_marked_right => k_is)
    (case l_law_marked_right => k_is)
    (case c_law_marked_right => k_is)
    (case k_law_marked_right => k_is)
    (case a_law_power => k_is)
    (case l_law_power => k_is)
    (case c_law_power => k_is)
    (case k_law_power => k_is)
    (case a_law_times_right => k_is)
    (case l_law_times_right => k_is)
    (case c_law_times_right => k_is)
    (case k_law_times_right => k_is)
    (case a_law => k_is)
    (case l_law => k_is)
    (case c_law => k_is)
    (case k_law => k_is)
    (case pg_Expression => k_is)
    (case hd_Expression => k_is)
    (case po_Expression => k_is)
    (case sa_Expression => k_is)
    (case mk_Expression => k_is)
    (case kc_Expression => k_is)
    (case rd_Expression => k_is)
    (case ga_Expression => k_is)
    (case mo_Expression => k_is)
    (case hc_Expression => k_is)
    (case ic_Expression => k_is)
    (case ty_Expression => k_is)
    (case ne_Expression => k_is)
    (case sf_Expression => k_is)
    (case no_Expression_text => k_is)
    (case no_Expression_program => k_is)
    (case pg_Reader => k_is)
    (case hd_Reader => k_is)
    (case po_Reader => k_is)
    (case sa_Reader => k_is)
    (case mk_Reader => k_is)
    (case kc_Reader => k_is)
    (case rd_Reader => k_is)
    (case ga_Reader => k_is)
    (case mo_Reader => k_is)
    (case hc_Reader => k_is)
    (case ic_Reader => k_is)
    (case ty_Reader => k_is)
    (case no_Reader_text => k_is)
    (case no_Reader_at => k_is)
    (case no_Reader_nested => k_is)
    (case no_Reader_rows => k_is)
    (case ty_BadExpression => k_is)
    (case ic_BadExpression => k_is)
    (case sb_BadExpression => k_is)
    (case lk_BadExpression => k_is)
    (case rv_BadExpression => first | rfl | decide +kernel)
    (case sa_BadExpression => k_is)
    (case kc_BadExpression => k_is)
    (case xt_BadExpression => k_is)
    (case no_BadExpression_at => k_is)
    (case ty_TooMany => k_is)
    (case ic_TooMany => k_is)
    (case sb_TooMany => k_is)
    (case lk_TooMany => k_is)
    (case rv_TooMany => first | rfl | decide +kernel)
    (case sa_TooMany => k_is)
    (case kc_TooMany => k_is)
    (case xt_TooMany => k_is)
    (case no_TooMany_what => k_is)
    (case ga_TooMany => k_is)
    (case gg_TooMany => k_is)
    (case hd_TooMany => k_is)
    (case hc_TooMany => k_is)
    (case mo_TooMany => k_is)
    (case ty_HeirsbackError => k_is)
    (case ic_HeirsbackError => k_is)
    (case sb_HeirsbackError => k_is)
    (case hnC => k_is)
    (case htC => k_is)
    (case a_MOST => k_is)
    (case a_SMALL => k_is)
    (case a_CAPITAL => k_is)
    (case a_LONGEST => k_is)
    (case a_LEAF => k_is)
    (case a_ASKED => k_is)
    (case a_UNARY_SIGNS => k_is)
    (case lk_UNARY_SIGNS => k_is)
    (case a_DONE => k_is)
    (case xr_Expression_pow => k_is)
    (case xi_Expression_pow => k_is)
    (case xj_Expression_pow => k_is)
    (case xs_Expression_int => k_is)
    (case xt_Expression_int => k_is)
    (case su_tt => k_is)
    (case su_th => k_is)
    (case xhd_hb => k_is)
    (case xhd_tm => k_is)
    (case xe_str => k_is)
    (case n_abs => k_is)
    (case n_bool => k_is)
    (case n_enumerate => k_is)
    (case n_int => k_is)
    (case n_isinstance => k_is)
    (case n_len => k_is)
    (case n_list => k_is)
    (case n_max => k_is)
    (case n_min => k_is)
    (case n_range => k_is)
    (case n_str => k_is)
    (case n_tuple => k_is)
#print axioms PySem.Challenge.cw_heirsback_k33_too_many_steps_holds

