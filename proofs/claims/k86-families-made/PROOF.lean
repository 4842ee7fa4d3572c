import PyProof.Rows.All
import Wide.All
import OpenK.AllK
import Wide.FinOn
import HandS.ForMost
import HandS.ForExc
import HandS.FStr
import HandS.Wide
import HandS.Deep
import HandS.OwnEq
import HandS.ClsMeth
import HandS.CallRecv
import HandS.CallLocal
import HandS.IsInst
import HandS.EndBits
import HandS.RaiseMore
import HandS.Evl
import HandS.Style
import HandS.Codes
import HandS.ExcInit
import HandS.ExcField
import HandS.ExcIs
import HandS.ExcOwn
import HandS.Lambda
import KE.KExcIs
import HandS.Star
import KE.KCallOwn
import PyProof.P3In
import PySem.Challenge.RW_heirsback_k86_families_made
set_option Elab.async false
set_option linter.all false
set_option maxRecDepth 100000
set_option maxHeartbeats 4000000
/-! Rules beside the hand layer: own special methods by the built-in's name, static methods, classes held in a name. -/
namespace Hk
open PySem PySem.Spec PyProof.Rows L2

/-! ### a def run somewhere below the running body -/
section
variable {X : Cx} {CX : CXT} {n : Nat} {f C : Addr} {fd : FuncData} {ps : List Str} {sp : Sp} {E : XK} {pins : List (Addr × Obj)} {σ : L2.St} {H : Hp} {s : Shared}
theorem run_sub {A : Around} {Q : VK} {us : List Value} {vs : List V} (sb : Sub X n A) (F : FnOk X.prog X.w X.K X.mg X.base CX n f fd ps sp) (hb : Binds X.K fd ps []) (hx : Passes CX X E)
    (I : Inv X pins σ H s) (r : Vals vs us) (h : sp vs H Q E) : wpAny (model X.prog X.w) A (call (.ref f) us) (EP X pins σ Q) X.xe s := by
  have hl : us.length = ps.length := by rw [← r.length]; exact F.len _ _ _ _ h
  have e0 : Env0 X.prog X.w X.K X.mg X.base A X.stack s H := by
    have e := I.env0
    exact ⟨by rw [sb.fr]; exact e.frames, e.mod, e.bs, e.bsz, e.funs, e.frf, e.hok, e.bare⟩
  refine wpAny_call (codeAny_mono (F.run A X.stack s H ⟨us, []⟩ us vs Q E sb.room e0 (by
    have := hb s us I.kIn (by simpa using hl)
    simpa using this) r h) fun r s' hq => ?_)
  cases r with
  | error e => exact hx pins σ H s e s' I hq
  | ok fl =>
    cases fl with
    | ret u => exact I.after hq
    | next => exact False.elim hq
    | brk => exact False.elim hq
    | cont => exact False.elim hq
end

/-- the class at C has the def at f for this name, which keeps sp -/
structure Own (X : Cx) (C : Addr) (name : Str) (n : Nat) (sp : Sp) (E : XK) : Prop where
  ex : ∃ (f : Addr) (fd : FuncData) (ps : List Str) (CX : CXT), FnOk X.prog X.w X.K X.mg X.base CX n f fd ps sp ∧ PySem.W.findIn X.K (.ref C) name = some (some (.ref f)) ∧ PySem.W.isFn X.K (.ref f) = true ∧ Binds X.K fd ps [] ∧ Passes CX X E

section
variable {X : Cx} {n : Nat} {C : Addr} {sp : Sp} {E : XK}
/-- len(o) by __len__ -/
def rLenO (C : Addr) (sp : Sp) (E : XK) : List V → Hp → VK → Prop := fun xs H Q => ∃ a dx fs, xs = [.ref a] ∧ H a = some (.ins C dx fs) ∧ sp [.ref a] H (fun v H' => ∃ k : Int, v = .int k ∧ (0 ≤ k ∧ k < 2 ^ 63) ∧ Q (.int k) H') E
theorem call_lenO (G : Own X C "__len__" n sp E) (hr : Room (n + 1) X.A) : CallR X (.builtin "len") (rLenO C sp E) := by
  obtain ⟨f, fd, ps, CX, F, hs, hf, hb, hx⟩ := G.ex
  intro pins s σ H xs us Q I r h
  obtain ⟨a, dx, fs, rfl, ha, q⟩ := h
  cases r with
  | cons r1 r2 =>
    cases r2
    cases r1
    obtain ⟨mA, J, _⟩ := ins_get I.hok ha
    obtain ⟨od, J, _⟩ := J.look
    obtain ⟨m, hF⟩ := I.fr
    refine PySem.W.len_K hF I.ok.mod.kin J hs hf ?_
    have sb : Sub X n X.A.in1 := ⟨hr.in1, rfl⟩
    refine thn (run_sub (vs := [V.ref a]) sb F hb hx I (.cons rfl .nil) q) fun u s1 hh => ?_
    obtain ⟨v, H1, I1, rv, k, rfl, hk, q1⟩ := hh
    obtain ⟨t, rfl⟩ := rv
    exact ⟨hk, .int k, H1, I1.tok _, ⟨_, rfl⟩, q1⟩
/-- str(o) by __str__ -/
def rStrO (C : Addr) (sp : Sp) (E : XK) : List V → Hp → VK → Prop := fun xs H Q => ∃ a dx fs, xs = [.ref a] ∧ H a = some (.ins C dx fs) ∧ sp [.ref a] H (fun v H' => ∃ k : Str, v = .str k ∧ Q (.str k) H') E
theorem call_strO (G : Own X C "__str__" n sp E) (hr : Room (n + 2) X.A) : CallR X (.type "str") (rStrO C sp E) := by
  obtain ⟨f, fd, ps, CX, F, hs, hf, hb, hx⟩ := G.ex
  intro pins s σ H xs us Q I r h
  obtain ⟨a, dx, fs, rfl, ha, q⟩ := h
  cases r with
  | cons r1 r2 =>
    cases r2
    cases r1
    obtain ⟨mA, J, _⟩ := ins_get I.hok ha
    obtain ⟨od, J, _⟩ := J.look
    have sb : Sub X n X.A.in1.in1 := ⟨hr.in1.in1, rfl⟩
    refine PySem.W.kso_call sb.room.units0 I.kIn J hs hf ?_
    refine thn (run_sub (vs := [V.ref a]) sb F hb hx I (.cons rfl .nil) q) fun u s1 hh => ?_
    obtain ⟨v, H1, I1, rv, k, rfl, q1⟩ := hh
    obtain ⟨t, rfl⟩ := rv
    exact ⟨.str k, H1, I1, ⟨_, rfl⟩, q1⟩
/-- repr(o) by __repr__ -/
def rReprO (C : Addr) (sp : Sp) (E : XK) : List V → Hp → VK → Prop := rStrO C sp E
theorem call_reprO (G : Own X C "__repr__" n sp E) (hr : Room (n + 1) X.A) : CallR X (.builtin "repr") (rReprO C sp E) := by
  obtain ⟨f, fd, ps, CX, F, hs, hf, hb, hx⟩ := G.ex
  intro pins s σ H xs us Q I r h
  obtain ⟨a, dx, fs, rfl, ha, q⟩ := h
  cases r with
  | cons r1 r2 =>
    cases r2
    cases r1
    obtain ⟨mA, J, _⟩ := ins_get I.hok ha
    obtain ⟨od, J, _⟩ := J.look
    obtain ⟨m, hF⟩ := I.fr
    have sb : Sub X n X.A.in1 := ⟨hr.in1, rfl⟩
    refine PySem.W.repr_K sb.room.units0 hF I.ok.mod.kin J hs hf ?_
    refine thn (run_sub (vs := [V.ref a]) sb F hb hx I (.cons rfl .nil) q) fun u s1 hh => ?_
    obtain ⟨v, H1, I1, rv, k, rfl, q1⟩ := hh
    obtain ⟨t, rfl⟩ := rv
    exact ⟨.str k, H1, I1, ⟨_, rfl⟩, q1⟩
/-- the truth of o by __bool__ -/
def rTruO (C : Addr) (sp : Sp) (E : XK) : V → Hp → (Bool → Hp → Prop) → Prop := fun x H Q => ∃ a dx fs, x = .ref a ∧ H a = some (.ins C dx fs) ∧ sp [.ref a] H (fun v H' => ∃ b : Bool, v = .bl b ∧ Q b H') E
theorem tru_O (G : Own X C "__bool__" n sp E) (hr : Room n X.A) : TruR X (rTruO C sp E) := by
  obtain ⟨f, fd, ps, CX, F, hs, hf, hb, hx⟩ := G.ex
  intro pins s σ H x u Q I r h
  obtain ⟨a, dx, fs, rfl, ha, q⟩ := h
  cases r
  obtain ⟨mA, J, _⟩ := ins_get I.hok ha
  obtain ⟨od, J, _⟩ := J.look
  obtain ⟨m, hF⟩ := I.fr
  have sb : Sub X n X.A := ⟨hr, rfl⟩
  refine PySem.W.truthy_K hF I.ok.mod.kin J hs hf ?_
  refine thn (run_sub (vs := [V.ref a]) sb F hb hx I (.cons rfl .nil) q) fun u s1 hh => ?_
  obtain ⟨v, H1, I1, rv, k, rfl, q1⟩ := hh
  cases rv
  exact ⟨H1, I1, q1⟩

/-! ### == and != by __eq__ -/
/-- the type of the other value: an instance of the class itself, or something that is not below it -/
def OtherTy (X : Cx) (H : Hp) (C : Addr) (y : V) : Prop := (∃ b dx fs, y = .ref b ∧ H b = some (.ins C dx fs)) ∨ ∃ t, TyOf X.K H y t ∧ PySem.W.notFirst X.K C t = true
def rEqO (X : Cx) (C : Addr) (sp : Sp) (E : XK) : R2 := fun x y H Q => ∃ a dx fs, x = .ref a ∧ H a = some (.ins C dx fs) ∧ OtherTy X H C y ∧ sp [.ref a, y] H (fun v H' => ∃ b : Bool, v = .bl b ∧ Q (.bl b) H') E
def rNeO (X : Cx) (C : Addr) (sp : Sp) (E : XK) : R2 := fun x y H Q => ∃ a dx fs, x = .ref a ∧ H a = some (.ins C dx fs) ∧ OtherTy X H C y ∧ sp [.ref a, y] H (fun v H' => ∃ b : Bool, v = .bl b ∧ Q (.bl (!b)) H') E
theorem other_looks {pins : List (Addr × Obj)} {σ : L2.St} {H : Hp} {s : Shared} {y : V} {u : Value} (I : Inv X pins σ H s) (ry : RelV y u) (h : OtherTy X H C y) : ∃ t, PySem.W.Looks (model X.prog X.w) s.heap (typeOf u) t ∧ PySem.W.notFirst X.K C t = true := by
  rcases h with ⟨b, dx, fs, rfl, hb⟩ | ⟨t, ty, hn⟩
  · cases ry
    obtain ⟨mA, J, _⟩ := ins_get I.hok hb
    obtain ⟨od, J, _⟩ := J.look
    exact ⟨.ref C, J.type, by simp [PySem.W.notFirst]⟩
  · refine ⟨t, ?_, hn⟩
    cases ty with
    | non => cases (show u = Value.none from ry); exact .of_pure rfl
    | bl y => cases (show u = Value.bool y from ry); exact .of_pure rfl
    | int i => obtain ⟨t, rfl⟩ := (show ∃ t, u = Value.int i t from ry); exact .of_pure rfl
    | str x => obtain ⟨t, rfl⟩ := (show ∃ t, u = Value.str x t from ry); exact .of_pure rfl
    | flt x => obtain ⟨t, rfl⟩ := (show ∃ t, u = Value.float x t from ry); exact .of_pure rfl
    | lst e =>
      cases ry
      obtain ⟨_, its, n, _, e'⟩ := I.hok _ _ e
      exact (PySem.W.Looks.ld e').andThen .now
    | frz e =>
      cases ry
      obtain ⟨eo, _, its, n, _, e'⟩ := I.hok _ _ e
      exact (PySem.W.Looks.ld e').andThen .now
    | tup e =>
      cases ry
      obtain ⟨_, its, _, e'⟩ := I.hok _ _ e
      obtain ⟨o, ho, hc, _⟩ := e'
      exact hc ▸ (PySem.W.Looks.ld ho).andThen .now
    | dK e =>
      cases ry
      obtain ⟨_, _, vs, _, o, es, ep, ho, hx, _⟩ := I.hok _ _ e
      exact hx.1 ▸ (PySem.W.Looks.ld ho).andThen .now
    | dT e =>
      cases ry
      obtain ⟨_, _, xs, _, o, es, ep, ho, hx, _⟩ := I.hok _ _ e
      exact hx.1 ▸ (PySem.W.Looks.ld ho).andThen .now
    | ins e cl ha hg htk hm =>
      cases ry
      obtain ⟨mA, J, _⟩ := ins_get I.hok e
      obtain ⟨od, J, _⟩ := J.look
      exact J.type
theorem op_eqO (G : Own X C "__eq__" n sp E) (hr : Room n X.A) : OpR X (compareOp .Eq) (rEqO X C sp E) := by
  obtain ⟨f, fd, ps, CX, F, hs, hf, hb, hx⟩ := G.ex
  intro pins s σ H x y v u Q I rx ry h
  obtain ⟨a, dx, fs, rfl, ha, ho, q⟩ := h
  cases rx
  obtain ⟨t, ht, hn⟩ := other_looks I ry ho
  obtain ⟨mA, J, _⟩ := ins_get I.hok ha
  obtain ⟨od, J, _⟩ := J.look
  obtain ⟨m, hF⟩ := I.fr
  have sb : Sub X n X.A := ⟨hr, rfl⟩
  show wpAny (model X.prog X.w) X.A (richCompare .Eq (.ref a) u) (EP X pins σ Q) X.xe s
  refine PySem.W.cmp_K (op := .Eq) sb.room.units0 hF I.ok.mod.kin J ht hn hs hf ?_
  refine thn (run_sub (vs := [V.ref a, y]) sb F hb hx I (.cons rfl (.cons ry .nil)) q) fun w1 s1 hh => ?_
  obtain ⟨z, H1, I1, rv, b, rfl, q1⟩ := hh
  cases rv
  exact ⟨.bl b, H1, I1, rfl, q1⟩

theorem ifBound_B {M : Model} {A : Around} {E : Value → Shared → Prop} {s : Shared} {K : PySem.W.Frag} {x C : Addr} {ox : Obj} {od : Option Obj} {name : Str} {id : String} {args : List Value} {Q : Option Value → Shared → Prop} (X : K.In s.heap) (I : PySem.W.InstAt s.heap x ox C od) (hs : PySem.W.findIn K (.ref C) name = some (some (.builtin id)))
    (hb : ∀ self, bindSpecial (.builtin id) self = pure (.builtin id, [self])) (h : wpAny M A (call (.builtin id) (.ref x :: args)) (fun v => Q (some v)) E s) : wpAny M A (callSpecialIfBound? (.ref x) name args) Q E s := by
  simp only [callSpecialIfBound?, bindSpecialIfBound?]
  refine wpAny_holding (wpAny_bind (wpAny_bind (wpAny_bind (I.type.here ((PySem.W.looks_findIn X hs).here ?_)))))
  refine wpAny_bind (wpAny_askSetting (wpAny_ite ?_))
  have fin : wpAny M A (call (.builtin id) ([.ref x] ++ args) >>= fun v => pure (some v)) Q E s := wpAny_bind (wpAny_mono h (fun v s' h' => wpAny_pure h') fun _ _ h' => h')
  split
  · exact wpAny_bind ((PySem.W.Looks.of_pure (hb _)).here (wpAny_pure (by exact fin)))
  · exact wpAny_tryCatch (wpAny_bind ((PySem.W.Looks.of_pure (hb _)).here (wpAny_pure (by exact fin))))
open Builtin in
theorem ne_K {prog : Program} {w : World} {A : Around} {E : Value → Shared → Prop} {s : Shared} {K : PySem.W.Frag} {x C f : Addr} {ox : Obj} {od : Option Obj} {b tb : Value} {Q : Value → Shared → Prop} (hu : A.units < cLine) (hu1 : A.in1.units < cLine) (X : K.In s.heap) (I : PySem.W.InstAt s.heap x ox C od)
    (hb : PySem.W.Looks (model prog w) s.heap (typeOf b) tb) (hn : PySem.W.notFirst K C tb = true) (hne : PySem.W.findIn K (.ref C) "__ne__" = some (some (.builtin "object.__ne__"))) (hm : PySem.W.mroIn K C (.type "object") = some true)
    (hs : PySem.W.findIn K (.ref C) "__eq__" = some (some (.ref f))) (hf : PySem.W.isFn K (.ref f) = true)
    (h : wpAny (model prog w) A.in1 (call (.ref f) [.ref x, b]) (fun v s' => ∃ r : Bool, v = .bool r ∧ Q (.bool (!r)) s') E s) : wpAny (model prog w) A (richCompare .NotEq (.ref x) b) Q E s := by
  have one : wpAny (model prog w) A (tryCompare (.ref x) "__ne__" b) (fun r s' => ∃ v, r = some v ∧ Q v s') E s := by
    unfold tryCompare
    refine wpAny_bind (ifBound_B X I hne PySem.F.slot_object_ne.bind ?_)
    refine wpAny_call (codeAny_call_builtin PySem.F.slot_object_ne.plain PySem.F.cmpEntry_ne (PySem.W.check_slot (i := "object.__ne__") (owner := "object") (n := "__ne__") (by decide +kernel) (by decide +kernel) (I.type.andThen (PySem.W.looks_mroIn X hm)) (PySem.F.cmpArgs_ne _ _) ?_))
    unfold Builtin.«object.__ne__»
    refine wpAny_bind (m := slotArgs "__ne__" 1 _) (wpAny_pure ?_)
    refine wpAny_bind (m := cRoomFor _ _) (wpAny_cRoomFor hu1 ?_)
    refine wpAny_bind (m := callSpecialIfBound? (.ref x) (Str.ofString "__eq__") _) (PySem.W.ifBound_K X I hs hf (wpAny_mono h (fun r s' hr => ?_) fun _ _ y => y))
    obtain ⟨r, rfl, hq⟩ := hr
    refine wpAny_bind (wpAny_truthy_bool ?_)
    exact wpAny_pure (wpAny_pure ⟨_, rfl, hq⟩)
  unfold richCompare
  simp only [PySem.oneThing_ref]
  refine wpAny_holding (wpAny_bind (wpAny_cRoomFor hu ?_))
  refine wpAny_bind (I.type.here (wpAny_bind (hb.here ?_)))
  split
  · rename_i q
    have e : PySem.W.subIn K tb (.ref C) = some false := by
      rcases Bool.or_eq_true_iff.mp hn with e | e
      · rw [beq_iff_eq.mp e] at q; simp at q
      · exact beq_iff_eq.mp e
    refine wpAny_bind ((PySem.W.looks_subIn X e).here ?_)
    simp only [Bool.false_eq_true, if_false]
    refine wpAny_bind (wpAny_mono one (fun r s' z => ?_) fun _ _ e => e)
    obtain ⟨v, rfl, hq⟩ := z
    exact wpAny_pure hq
  · refine wpAny_bind (wpAny_pure ?_)
    simp only [Bool.false_eq_true, if_false]
    refine wpAny_bind (wpAny_mono one (fun r s' z => ?_) fun _ _ e => e)
    obtain ⟨v, rfl, hq⟩ := z
    exact wpAny_pure hq
/-- what a class with its own __eq__ must have for != -/
structure NeC (K : PySem.W.Frag) (C : Addr) : Prop where
  ne : PySem.W.findIn K (.ref C) "__ne__" = some (some (.builtin "object.__ne__"))
  ob : PySem.W.mroIn K C (.type "object") = some true
theorem op_neO (G : Own X C "__eq__" n sp E) (N : NeC X.K C) (hr : Room (n + 1) X.A) : OpR X (compareOp .NotEq) (rNeO X C sp E) := by
  obtain ⟨f, fd, ps, CX, F, hs, hf, hb, hx⟩ := G.ex
  intro pins s σ H x y v u Q I rx ry h
  obtain ⟨a, dx, fs, rfl, ha, ho, q⟩ := h
  cases rx
  obtain ⟨t, ht, hn⟩ := other_looks I ry ho
  obtain ⟨mA, J, _⟩ := ins_get I.hok ha
  obtain ⟨od, J, _⟩ := J.look
  have sb : Sub X n X.A.in1 := ⟨hr.in1, rfl⟩
  show wpAny (model X.prog X.w) X.A (richCompare .NotEq (.ref a) u) (EP X pins σ Q) X.xe s
  refine ne_K hr.units0 sb.room.units0 I.kIn J ht hn N.ne N.ob hs hf ?_
  refine thn (run_sub (vs := [V.ref a, y]) sb F hb hx I (.cons rfl (.cons ry .nil)) q) fun w1 s1 hh => ?_
  obtain ⟨z, H1, I1, rv, b, rfl, q1⟩ := hh
  cases rv
  exact ⟨b, rfl, .bl (!b), H1, I1, rfl, q1⟩

/-! ### in by __contains__, operators by their own methods -/
def rInO (C : Addr) (sp : Sp) (E : XK) (g : Bool → Bool) : R2 := fun x y H Q => ∃ a dx fs, y = .ref a ∧ H a = some (.ins C dx fs) ∧ sp [.ref a, x] H (fun v H' => ∃ b : Bool, v = .bl b ∧ Q (.bl (g b)) H') E
theorem op_inO (G : Own X C "__contains__" n sp E) (hr : Room n X.A) : OpR X (compareOp .In) (rInO C sp E id) := by
  obtain ⟨f, fd, ps, CX, F, hs, hf, hb, hx⟩ := G.ex
  intro pins s σ H x y v u Q I rx ry h
  obtain ⟨a, dx, fs, rfl, ha, q⟩ := h
  cases ry
  obtain ⟨mA, J, _⟩ := ins_get I.hok ha
  obtain ⟨od, J, _⟩ := J.look
  obtain ⟨m, hF⟩ := I.fr
  have sb : Sub X n X.A := ⟨hr, rfl⟩
  refine PySem.W.in_K hF I.ok.mod.kin J hs hf ?_
  refine thn (run_sub (vs := [V.ref a, x]) sb F hb hx I (.cons rfl (.cons rx .nil)) q) fun w1 s1 hh => ?_
  obtain ⟨z, H1, I1, rv, b, rfl, q1⟩ := hh
  cases rv
  exact wpAny_truthy_bool ⟨.bl b, H1, I1, rfl, q1⟩
theorem op_notInO (G : Own X C "__contains__" n sp E) (hr : Room n X.A) : OpR X (compareOp .NotIn) (rInO C sp E not) := by
  obtain ⟨f, fd, ps, CX, F, hs, hf, hb, hx⟩ := G.ex
  intro pins s σ H x y v u Q I rx ry h
  obtain ⟨a, dx, fs, rfl, ha, q⟩ := h
  cases ry
  obtain ⟨mA, J, _⟩ := ins_get I.hok ha
  obtain ⟨od, J, _⟩ := J.look
  obtain ⟨m, hF⟩ := I.fr
  have sb : Sub X n X.A := ⟨hr, rfl⟩
  refine PySem.W.notIn_K hF I.ok.mod.kin J hs hf ?_
  refine thn (run_sub (vs := [V.ref a, x]) sb F hb hx I (.cons rfl (.cons rx .nil)) q) fun w1 s1 hh => ?_
  obtain ⟨z, H1, I1, rv, b, rfl, q1⟩ := hh
  cases rv
  exact wpAny_truthy_bool ⟨.bl (!b), H1, I1, rfl, q1⟩
/-- a op b, two instances of one class; the answer an object -/
def rBinO (C : Addr) (sp : Sp) (E : XK) : R2 := fun x y H Q => ∃ a dx fs b dy gs, x = .ref a ∧ y = .ref b ∧ H a = some (.ins C dx fs) ∧ H b = some (.ins C dy gs) ∧ sp [.ref a, .ref b] H (fun v H' => ∃ p, v = .ref p ∧ Q (.ref p) H') E
theorem op_binO {op : Operator} (G : Own X C (dunder op.info.snd) n sp E) (hc : PySem.W.selfFirst X.K C = true) (hr : Room n X.A) : OpR X (binaryOp op) (rBinO C sp E) := by
  obtain ⟨f, fd, ps, CX, F, hs, hf, hb, hx⟩ := G.ex
  intro pins s σ H x y v u Q I rx ry h
  obtain ⟨a, dx, fs, b, dy, gs, rfl, rfl, ha, hb', q⟩ := h
  cases rx
  cases ry
  obtain ⟨mA, J, _⟩ := ins_get I.hok ha
  obtain ⟨od, J, _⟩ := J.look
  obtain ⟨mB, J', _⟩ := ins_get I.hok hb'
  obtain ⟨od', J', _⟩ := J'.look
  obtain ⟨m, hF⟩ := I.fr
  have sb : Sub X n X.A := ⟨hr, rfl⟩
  refine PySem.W.binop_K hF I.ok.mod.kin J J'.type hc hs hf ?_
  refine thn (run_sub (vs := [V.ref a, V.ref b]) sb F hb hx I (.cons rfl (.cons rfl .nil)) q) fun w1 s1 hh => ?_
  obtain ⟨z, H1, I1, rv, p, rfl, q1⟩ := hh
  cases rv
  exact ⟨.ref p, H1, I1, rfl, q1⟩
end

/-! ### static methods, read off the class -/
structure SMet (K : PySem.W.Frag) (C : Addr) (mc : Value) (m : Str) (g : Addr) : Prop where
  rd : ClX.CRead K C mc
  at_ : ∃ p o, PySem.W.findCls K (.ref C) mc m = some (.get (.builtin "staticmethod.__get__") (.ref p) o (.ref C)) ∧ ∃ rest, PySem.W.recIn K p "staticmethod" = some (.ref g :: rest)
  kp : PySem.W.keepIn K (.ref g) = true
theorem getmethsm_ok {X : Cx} {pins : List (Addr × Obj)} {σ : L2.St} {H : Hp} {s : Shared} {C g : Addr} {mc : Value} {m : Str} {A : Around} {E : Value → Shared → Prop} {pl : Sem Bool} {Q : Value × List Value → Shared → Prop} (I : Inv X pins σ H s) (k : SMet X.K C mc m g)
    (h : ∀ s', Inv X pins σ H s' → Q (.ref g, []) s') : wpAny (model X.prog X.w) A (getMethod (.ref C) m pl) Q E s := by
  obtain ⟨p, o, ha, rest, hp⟩ := k.at_
  refine PySem.W.method_cls I.kIn k.rd.ga (PySem.W.cls_bind I.kIn k.rd.rd ha ?_)
  refine wpAny_call (PySem.W.sm_get (s := { s with toks := s.toks + 1 }) I.kIn hp (PySem.W.handed_on rfl ?_))
  exact h _ (I.tok _)
section
variable {X : Cx} {CX : CXT} {k : Nat} {C g f : Addr} {mc : Value} {sp : Sp} {E : XK} {o e : Expr} {es : List Expr} {kws : List Keyword} {m x : Str} {pos apos p : Pos} {ta : TE} {t tk : TA} {pl : Sem Bool} {fd : FuncData} {ps ks : List Str}
/-- C.m(e, ..) -/
def tSMeth (C : Addr) (sp : Sp) (E : XK) (ta : TE) (t : TA) : TE := fun σ H Q => ta σ H fun x H1 => x = .ref C ∧ t σ H1 fun vs H2 => sp (vs ++ []) H2 Q E
theorem pe_smeth (he : PE X o ta) (c : SMet X.K C mc m g) (F : FnOk X.prog X.w X.K X.mg X.base CX k g fd ps sp) (hr : Room k X.A) (hb : Binds X.K fd ps []) (hx : Passes CX X E) (ha : PA X (e :: es) t)
    (hst : starEach (e :: es) X.env = (false, eval e X.env) :: starEach es X.env := by rfl) (hpl : (backTo pos (starEach es X.env)).any (·.1) = false := by rfl)
    (ht : eval (.Call (.Attribute o m apos) (e :: es) [] pos) X.env = (do
      let ov ← eval o X.env
      standAt apos.atName
      let (f, first) ← holding [ov] (getMethod ov m pl)
      callWith pos f first (backTo pos (starEach (e :: es) X.env)) (backToKw pos (keywordEach [] X.env))) := by rfl) :
    PE X (.Call (.Attribute o m apos) (e :: es) [] pos) (tSMeth C sp E ta t) := by
  refine ⟨fun pins s σ H Q I h => ?_⟩
  refine PySem.W.methodCall_KW (pl := pl) (thn (he.run pins s σ H _ I h) fun u s1 ⟨x, H1, I1, rx, ex, q⟩ => ?_) ht
  subst ex
  obtain rfl : u = Value.ref C := rx
  refine getmethsm_ok I1 c fun s2 I2 => ?_
  refine PySem.W.callWith_K (first := []) (h₀ := X.base) I.ok.mod.kin c.kp (thn (ha.run pos pins s2 σ H1 _ I2 q) fun us s3 ⟨vs, H2, I3, r, q2⟩ => ⟨I3.kIn, ?_⟩) hst hpl
  exact run_fn F hr hb .nil hx I3 r q2
/-- C.m(k = v, ..) -/
def tSMethK (C : Addr) (sp : Sp) (gV : List V → List V → List V) (E : XK) (ta : TE) (tk : TA) : TE := fun σ H Q => ta σ H fun x H1 => x = .ref C ∧ tk σ H1 fun zs H2 => sp (gV [] zs) H2 Q E
variable {gg : List Value → List Value → List Value} {gV : List V → List V → List V}
theorem pe_smethK (he : PE X o ta) (c : SMet X.K C mc m g) (F : FnOk X.prog X.w X.K X.mg X.base CX k g fd ps sp) (hr : Room k X.A) (hb : KBinds X.K fd ps ks gg gV) (hx : Passes CX X E) (hkw : PK X kws tk)
    (hall : (backToKw pos (keywordEach kws X.env)).all (·.1.isSome) = true := by rfl) (hks : (backToKw pos (keywordEach kws X.env)).filterMap (·.1) = ks := by rfl)
    (hpl : ((backTo pos (starEach [] X.env)).any (·.1) || (backToKw pos (keywordEach kws X.env)).any (·.1.isNone)) = false := by rfl)
    (ht : eval (.Call (.Attribute o m apos) [] kws pos) X.env = (do
      let ov ← eval o X.env
      standAt apos.atName
      let (f, first) ← holding [ov] (getMethod ov m pl)
      callWith pos f first (backTo pos (starEach [] X.env)) (backToKw pos (keywordEach kws X.env))) := by rfl) :
    PE X (.Call (.Attribute o m apos) [] kws pos) (tSMethK C sp gV E ta tk) := by
  refine ⟨fun pins s σ H Q I h => ?_⟩
  refine PySem.W.methodCall_KW (pl := pl) (thn (he.run pins s σ H _ I h) fun u s1 ⟨x, H1, I1, rx, ex, q⟩ => ?_) ht
  subst ex
  obtain rfl : u = Value.ref C := rx
  refine getmethsm_ok I1 c fun s2 I2 => ?_
  refine PySem.W.callWith_KW0 (first := []) (h₀ := X.base) I.ok.mod.kin c.kp hall ?_ hpl
  refine thn (hkw.run pos pins s2 σ H1 _ I2 q) fun ws s3 ⟨zs, H2, I3, rz, q2⟩ => ⟨I3.kIn, ?_⟩
  rw [hks]
  exact run_fnk (us := []) (vs := []) F hr hb hx I3 .nil rz q2
/-- the i-th slot holds the class at C: x(e, ..) makes an instance -/
def tMakeL (i : Nat) (C : Addr) (sp : Sp) (E : XK) (t : TA) : TE := fun σ H Q => σ[i]? = some (some (.ref C)) ∧ tMake C sp [] E t σ H Q
theorem pe_makeL {i : Nat} (M : Mk X.K C f) (F : FnOk X.prog X.w X.K X.mg X.base CX k f fd ps sp) (hr : Room (k + 1) X.A) (hN : X.N[i]? = some x) (hv : Vis X.env.scope x) (hb : Binds X.K fd ps []) (hx : Passes CX X E)
    (ha : PA X (e :: es) t) (hdb : (x == ("__debug__" : Str)) = false := by decide) (hcd : (x == ("__classdict__" : Str)) = false := by decide) (he : starEach (e :: es) X.env = (false, eval e X.env) :: starEach es X.env := by rfl) (hpl : (backTo pos (starEach es X.env)).any (·.1) = false := by rfl) :
    PE X (.Call (.Name x p) (e :: es) [] pos) (tMakeL i C sp E t) := by
  refine ⟨fun pins s σ H Q I h => ?_⟩
  obtain ⟨hs, ht⟩ := h
  refine wpAny_Call_Name_kw (thn ((pe_var (pos := p) hN hv hdb hcd).run pins s σ H (fun v H1 => v = .ref C ∧ H1 = H) I ⟨.ref C, hs, rfl, rfl⟩) fun u s1 ⟨v, H1, I1, r1, q1⟩ => ?_)
  obtain ⟨rfl, rfl⟩ := q1
  cases r1
  refine PySem.W.callWith_K (h₀ := X.base) I.ok.mod.kin M.kp (thn (ha.run pos pins s1 σ _ _ I1 ht) fun us s2 ⟨vs, H2, I2, r, q⟩ => ⟨I2.kIn, ?_⟩) he hpl
  exact run_make M F hr hb .nil hx I2 r q
end

/-! ### a classmethod called with keywords -/
theorem fnR_of {P : Program} {w : World} {K : PySem.W.Frag} {mg : Str → Option Value} {base : Heap} {CX : CXT} {k : Nat} {f : Addr} {fd : FuncData} {ps : List Str} {sp : Sp} (F : FnOk P w K mg base CX k f fd ps sp) (hb : Binds K fd ps []) : FnR P w K mg base CX k f sp := by
  have h := FnOk.raw F hb (.nil : Vals [] [])
  refine FnR.imp h fun vs H Q E q => ?_
  show sp (vs ++ []) H Q E
  rw [List.append_nil]
  exact q
section
variable {X : Cx} {CX : CXT} {k : Nat} {C p g : Addr} {mc : Value} {sp : Sp} {E : XK} {o : Expr} {kws : List Keyword} {m : Str} {pos apos : Pos} {ta : TE} {tk : TA} {pl : Sem Bool} {fd : FuncData} {ps ks : List Str} {gg : List Value → List Value → List Value} {gV : List V → List V → List V}
def tCMethK (C : Addr) (sp : Sp) (gV : List V → List V → List V) (E : XK) (ta : TE) (tk : TA) : TE := fun σ H Q => ta σ H fun x H1 => x = .ref C ∧ tk σ H1 fun zs H2 => sp (gV [.ref C] zs) H2 Q E
theorem pe_cmethK (he : PE X o ta) (r : ClX.CRead X.K C mc) (c : ClX.CMet X.K C mc m p g) (F : FnOk X.prog X.w X.K X.mg X.base CX k g fd ps sp) (hr : Room k X.A) (hb : KBinds X.K fd ps ks gg gV) (hx : Passes CX X E) (hkw : PK X kws tk)
    (hall : (backToKw pos (keywordEach kws X.env)).all (·.1.isSome) = true := by rfl) (hks : (backToKw pos (keywordEach kws X.env)).filterMap (·.1) = ks := by rfl)
    (hpl : ((backTo pos (starEach [] X.env)).any (·.1) || (backToKw pos (keywordEach kws X.env)).any (·.1.isNone)) = false := by rfl)
    (ht : eval (.Call (.Attribute o m apos) [] kws pos) X.env = (do
      let ov ← eval o X.env
      standAt apos.atName
      let (f, first) ← holding [ov] (getMethod ov m pl)
      callWith pos f first (backTo pos (starEach [] X.env)) (backToKw pos (keywordEach kws X.env))) := by rfl) :
    PE X (.Call (.Attribute o m apos) [] kws pos) (tCMethK C sp gV E ta tk) := by
  refine ⟨fun pins s σ H Q I h => ?_⟩
  refine PySem.W.methodCall_KW (pl := pl) (thn (he.run pins s σ H _ I h) fun u s1 ⟨x, H1, I1, rx, ex, q⟩ => ?_) ht
  subst ex
  obtain rfl : u = Value.ref C := rx
  refine ClX.getmethcm_ok I1 r c fun s2 I2 => ?_
  refine PySem.W.callWith_of (P := PySem.W.MethP X.K s1.heap.objs.size g (.ref C)) hpl (PySem.W.keeps_M c.fi) (PyProof.Rows.evalArgs_kw2_nil hall ?_)
  refine thn (hkw.run pos _ s2 σ H1 _ I2 q) fun ws s3 ⟨zs, H2, I3, rz, q2⟩ => ⟨⟨ClX.pin_at I3, I3.kIn⟩, ?_⟩
  rw [hks]
  have r2 := hb.rel (vs := [V.ref C]) (us := [Value.ref C]) (.cons rfl .nil) rz
  have hl : (gg [Value.ref C] ws).length = ps.length := by rw [← r2.length]; exact F.len _ _ _ _ q2
  have z : wpAny (model X.prog X.w) X.A (call (.ref s1.heap.objs.size) [] (ks.zip ws)) (EP X ((s1.heap.objs.size, PySem.W.methodObj (.ref g) (.ref C)) :: pins) σ Q) X.xe s3 := by
    refine wpAny_call (PySem.W.method_call (ClX.pin_at I3) (codeAny_mono (F.run X.A X.stack s3 H2 ⟨[.ref C], ks.zip ws⟩ (gg [.ref C] ws) (gV [.ref C] zs) Q E hr I3.env0 (hb.to s3 [.ref C] ws I3.kIn hl) r2 q2) fun r s' hq => ?_))
    cases r with
    | error e => exact hx _ σ H2 s3 e s' I3 hq
    | ok fl =>
      cases fl with
      | ret u => exact I3.after hq
      | next => exact False.elim hq
      | brk => exact False.elim hq
      | cont => exact False.elim hq
  exact thn z fun _ _ y => ClX.unpinE y
end

/-! ### keywords in the order of the parameters -/
def kperm_0_10 {α : Type} : List α → List α → List α
  | [], [x, y] => [y, x]
  | _, _ => []
def kperm_1_0 {α : Type} : List α → List α → List α
  | [c], [x] => [c, x]
  | _, _ => []
section
variable {K : PySem.W.Frag} {x qual : Str} {st : Stmt} {f : Addr} {fd : FuncData}
theorem kperm_0_10_kb {p0 p1 k0 k1 : Str} (F : Fun K x qual st f fd) (h : ∀ (kV doc pm : Value) (an : Option Addr) (cdv ct : Value) (u v : Value), bindArgs (PySem.W.fnOf x qual (defArgs st) (defBody st) (defScope st) .none kV doc pm an cdv ct) ⟨[], [(k0, u), (k1, v)]⟩ = pure [(p0, v), (p1, u)]) :
    KBinds K fd [p0, p1] [k0, k1] kperm_0_10 kperm_0_10 := by
  obtain ⟨oc, od, kV, doc, pm, an, cdv, ct, osl, rfl, lk, hcd⟩ := F.ex
  refine ⟨fun s us ws _ hl => ?_, fun {vs us zs ws} r r2 => ?_⟩
  · match us, ws, hl with
    | [], [u, v], _ => exact .of_eq (h kV doc pm an cdv ct u v)
    | [], [], hl => simp [kperm_0_10] at hl
    | [], [_], hl => simp [kperm_0_10] at hl
    | [], _ :: _ :: _ :: _, hl => simp [kperm_0_10] at hl
    | _ :: _, _, hl => simp [kperm_0_10] at hl
  · cases r with
    | cons _ _ => exact .nil
    | nil =>
      cases r2 with
      | nil => exact .nil
      | cons a r2 =>
        cases r2 with
        | nil => exact .nil
        | cons b r2 =>
          cases r2 with
          | nil => exact .cons b (.cons a .nil)
          | cons _ _ => exact .nil
theorem kperm_1_0_kb {p0 p1 k0 : Str} (F : Fun K x qual st f fd) (h : ∀ (kV doc pm : Value) (an : Option Addr) (cdv ct : Value) (u v : Value), bindArgs (PySem.W.fnOf x qual (defArgs st) (defBody st) (defScope st) .none kV doc pm an cdv ct) ⟨[u], [(k0, v)]⟩ = pure [(p0, u), (p1, v)]) :
    KBinds K fd [p0, p1] [k0] kperm_1_0 kperm_1_0 := by
  obtain ⟨oc, od, kV, doc, pm, an, cdv, ct, osl, rfl, lk, hcd⟩ := F.ex
  refine ⟨fun s us ws _ hl => ?_, fun {vs us zs ws} r r2 => ?_⟩
  · match us, ws, hl with
    | [u], [v], _ => exact .of_eq (h kV doc pm an cdv ct u v)
    | [], _, hl => simp [kperm_1_0] at hl
    | [_], [], hl => simp [kperm_1_0] at hl
    | [_], _ :: _ :: _, hl => simp [kperm_1_0] at hl
    | _ :: _ :: _, _, hl => simp [kperm_1_0] at hl
  · cases r with
    | nil => exact .nil
    | cons a r =>
      cases r with
      | cons _ _ => exact .nil
      | nil =>
        cases r2 with
        | nil => exact .nil
        | cons b r2 =>
          cases r2 with
          | nil => exact .cons a (.cons b .nil)
          | cons _ _ => exact .nil
end

/-! ### isinstance against an own class -/
structure TyC (K : PySem.W.Frag) (C : Addr) : Prop where
  cl : Cls K C
  hc : PySem.W.findIn K (.ref C) "__class__" = some (some (.builtin "object.__class__"))
  hn : PySem.W.specialIn K (.builtin "object.__class__") "__get__" = some (some (.builtin "getset_descriptor.__get__"))
  ht : PySem.W.takesIn K (.builtin "object.__class__") = some true
  mo : PySem.W.mroIn K C (.type "object") = some true
  ic : PySem.W.isClsIn K C = true
  ty : PySem.W.typeIn K (.ref C) = some (.type "type")
theorem TyC.at {K : PySem.W.Frag} {C : Addr} (T : TyC K C) {H : Hp} {a dx : Addr} {fs : List (Str × V)} (e : H a = some (.ins C dx fs)) : TyOf K H (.ref a) (.ref C) := .ins e T.cl T.hc T.hn T.ht T.mo
theorem kit_self {K : PySem.W.Frag} {C : Addr} : PySem.W.kitOne K (.ref C) (.ref C) = some true := by
  unfold PySem.W.kitOne
  rw [if_pos (by simp)]
theorem TyC.kit {K : PySem.W.Frag} {C : Addr} (T : TyC K C) {t : Value} {b : Bool} (h : PySem.W.subIn K t (.ref C) = some b) (hne : (t == .ref C) = false) : PySem.W.kitOne K t (.ref C) = some b := by
  unfold PySem.W.kitOne
  rw [if_neg (by rw [hne]; decide)]
  unfold PySem.W.kitCls
  have h1 : (PySem.W.clsIn K C).isSome = true := T.ic
  have e : ((PySem.W.clsIn K C).isSome && PySem.W.typeIn K (.ref C) == some (.type "type")) = true := by
    rw [h1, T.ty] <;> rfl
  show (if ((PySem.W.clsIn K C).isSome && PySem.W.typeIn K (.ref C) == some (.type "type")) = true then PySem.W.subIn K t (.ref C) else none) = some b
  rw [if_pos e, h]
end Hk

/-! The readings, step by step: one lemma a combinator, and words that try them. -/
namespace Hk
open PySem PySem.Spec PyProof.Rows L2

theorem cxK {CX : CXT} {P : Program} {w : World} {K : PySem.W.Frag} {mg : Str → Option Value} {base : Heap} {N : List Str} {qual : Str} {scope : Scope} {f : Addr} {cd : Value} {A : Around} {outer : List Env} {s : Shared} {H : Hp} {E : XK} :
    (cxOf CX P w K mg base N qual scope f cd A outer s H E).K = K := rfl

/-! ### names for the built-ins' readings -/
def rLenSeq (K : PySem.W.Frag) : List V → Hp → VK → Prop := fun xs H Q => ∃ p ys, xs = [.ref p] ∧ (SqL K H p ys ∨ SqT K H p ys) ∧ Q (.int ys.length) H
theorem call_lenSeq {X : Cx} : CallR X (.builtin "len") (rLenSeq X.K) := call_len_seq
def rLenStr : List V → Hp → VK → Prop := fun xs H Q => ∃ z, xs = [.str z] ∧ z.length ≤ sizeLine ∧ Q (.int z.length) H
theorem call_lenStr {X : Cx} : CallR X (.builtin "len") rLenStr := call_len_str
def rAbs : List V → Hp → VK → Prop := fun xs H Q => ∃ i, xs = [.int i] ∧ Q (.int (if i < 0 then -i else i)) H
theorem call_absI {X : Cx} : CallR X (.builtin "abs") rAbs := call_abs
def rInt1 : List V → Hp → VK → Prop := fun xs H Q => (∃ i, xs = [.int i] ∧ Q (.int i) H) ∨ ∃ k, xs = [.bl k] ∧ Q (.int (if k then 1 else 0)) H
theorem call_intI {X : Cx} : CallR X (.type "int") rInt1 := call_int1
def rMaxI : List V → Hp → VK → Prop := fun xs H Q => ∃ i j, xs = [.int i, .int j] ∧ Q (.int (if j > i then j else i)) H
theorem call_maxI {X : Cx} (hc : X.calm = true) : CallR X (.builtin "max") rMaxI := call_max2 hc
def rMinI : List V → Hp → VK → Prop := fun xs H Q => ∃ i j, xs = [.int i, .int j] ∧ Q (.int (if j < i then j else i)) H
theorem call_minI {X : Cx} (hc : X.calm = true) : CallR X (.builtin "min") rMinI := call_min2 hc
def rStrS : List V → Hp → VK → Prop := fun xs H Q => ∃ a, xs = [.str a] ∧ Q (.str a) H
theorem call_strS {X : Cx} : CallR X (.type "str") rStrS := SkE.call_str_str
def rListOf (K : PySem.W.Frag) : List V → Hp → VK → Prop := fun xs H Q => ∃ p ys, xs = [.ref p] ∧ (SqL K H p ys ∨ SqT K H p ys) ∧ ∀ l, H l = none → Q (.ref l) (upd H l (.lst ys))
theorem call_listOf {X : Cx} : CallR X (.type "list") (rListOf X.K) := call_list_of
def rTupOf (K : PySem.W.Frag) : List V → Hp → VK → Prop := fun xs H Q => ∃ p ys, xs = [.ref p] ∧ ((SqL K H p ys ∧ ∀ l, H l = none → Q (.ref l) (upd H l (.tup ys))) ∨ (SqT K H p ys ∧ Q (.ref p) H))
theorem call_tupOf {X : Cx} : CallR X (.type "tuple") (rTupOf X.K) := call_tuple_of
def rAddStr : R2 := fun x y H Q => ∃ i j, x = .str i ∧ y = .str j ∧ i.length + j.length ≤ sizeLine ∧ Q (.str (i ++ j)) H
theorem op_addStr {X : Cx} : OpR X (binaryOp .Add) rAddStr := op_add_str
def rInSign : R2 := fun x y H Q => ∃ (c : Nat) (z : Str), x = .str ⟨#[c]⟩ ∧ y = .str z ∧ Q (.bl (decide (c ∈ z.cps.toList))) H
theorem op_inSign {X : Cx} : OpR X (compareOp .In) rInSign := op_in_sign
def rNotInSign : R2 := fun x y H Q => ∃ (c : Nat) (z : Str), x = .str ⟨#[c]⟩ ∧ y = .str z ∧ Q (.bl (!decide (c ∈ z.cps.toList))) H
theorem op_notInSign {X : Cx} : OpR X (compareOp .NotIn) rNotInSign := op_notIn_sign
def rIsNone : R2 := fun x y H Q => y = .non ∧ Q (.bl (decide (x = .non))) H
def rNotNone : R2 := fun x y H Q => y = .non ∧ Q (.bl (!decide (x = .non))) H
theorem op_isNone {X : Cx} : OpR X (compareOp .Is) rIsNone := op_isN
theorem op_notNone {X : Cx} : OpR X (compareOp .IsNot) rNotNone := op_notN

/-! ### heaps -/
section
variable {H H1 H2 : Hp} {p q : Addr} {o u : HO}
theorem upd_new (hq : H q = none) (h : H p = some o) : upd H q u p = some o := by
  rw [upd_ne (ne_of_none h hq)]
  exact h
theorem upd_old (hq : p ≠ q) (h : H p = some o) : upd H q u p = some o := by
  rw [upd_ne hq]
  exact h
theorem upd_oldN (hq : p ≠ q) (h : H p = none) : upd H q u p = none := by
  rw [upd_ne hq]
  exact h
theorem ne_new (hq : H q = none) (h : H p = some o) : p ≠ q := ne_of_none h hq
theorem ne_new' (hq : H q = none) (h : H p = some o) : q ≠ p := (ne_of_none h hq).symm
theorem same_new (h : H q = none) : Same H (upd H q u) := fun b o e => upd_new h e
theorem same_mut (e : Same H H1) (h : H q = none) : Same H (upd H1 q u) := fun b o z => by
  rw [upd_ne (ne_of_none z h)]
  exact e b o z
theorem same_ext (e : Same H H1) (h : H1 q = none) : Same H (upd H1 q u) := e.trans (same_new h)
theorem same_step (e : Same H1 H2) (h : Same H H1) : Same H H2 := h.trans e
theorem same_at (e : Same H H1) (h : H p = some o) : H1 p = some o := e _ _ h
theorem same_none (e : Same H H1) (h : H1 q = none) : H q = none := e.free h
theorem sqL_of {K : PySem.W.Frag} {xs : List V} (h : H p = some (.lst xs)) : SqL K H p xs := .inl (.inl h)
theorem sqT_of {K : PySem.W.Frag} {xs : List V} (h : H p = some (.tup xs)) : SqT K H p xs := .inl (.inl h)
theorem sqT_same {K : PySem.W.Frag} {xs : List V} (e : Same H H1) (h : SqT K H p xs) : SqT K H1 p xs := by
  rcases h with (h | ⟨o, h⟩) | h
  · exact .inl (.inl (e _ _ h))
  · exact .inl (.inr ⟨o, e _ _ h⟩)
  · exact .inr h
/-- a list that is read, behind a store elsewhere -/
theorem sqL_upd {K : PySem.W.Frag} {xs : List V} (hq : p ≠ q) (h : SqL K H p xs) : SqL K (upd H q u) p xs := by
  rcases h with (h | ⟨o, h⟩) | h
  · exact .inl (.inl (upd_old hq h))
  · exact .inl (.inr ⟨o, upd_old hq h⟩)
  · exact .inr h
/-- .. of something that is no list -/
theorem sqL_new {K : PySem.W.Frag} {xs : List V} (hq : H q = none) (h : SqL K H p xs) : SqL K (upd H q u) p xs := (same_new hq).seq h
end

/-! ### readings -/
section
variable {K : PySem.W.Frag} {σ : L2.St} {H : Hp} {Q : VK} {ta tb te tv : TE} {t u : TT} {v x y : V} {D : Ends} {nx bk ct : L2.St → Hp → Prop} {rt : VK} {t1 t2 tu : TS} {tt : TA} {g : TG} {i j : Int} {n : Nat} {f : Str} {b : Bool} {QB : Bool → Hp → Prop} {QA : List V → Hp → Prop} {k : L2.St → Hp → Prop}
theorem rd_seq (h : t1 ⟨t2 ⟨nx, rt, bk, ct⟩, rt, bk, ct⟩ σ H) : tSeq t1 t2 ⟨nx, rt, bk, ct⟩ σ H := h
theorem rd_cut (M : L2.St → Hp → Prop) (h : t1 ⟨M, rt, bk, ct⟩ σ H) (q : ∀ σ' H', M σ' H' → t2 ⟨nx, rt, bk, ct⟩ σ' H') : Evl.tCut t1 t2 ⟨nx, rt, bk, ct⟩ σ H := ⟨M, h, q⟩
theorem rd_asgN {m : Nat} (h : te σ H fun x H1 => t2 ⟨nx, rt, bk, ct⟩ (σ.set m (some x)) H1) : tSeq (tAsg te (gName m)) t2 ⟨nx, rt, bk, ct⟩ σ H := h
theorem rd_next (h : nx σ H) : tNext ⟨nx, rt, bk, ct⟩ σ H := h
theorem rd_asg (h : te σ H fun x H1 => g x σ H1 nx) : tAsg te g ⟨nx, rt, bk, ct⟩ σ H := h
theorem rd_gname (h : k (σ.set n (some v)) H) : gName n v σ H k := h
theorem rd_drop (h : te σ H fun _ H1 => nx σ H1) : tDrop te ⟨nx, rt, bk, ct⟩ σ H := h
theorem rd_ret (h : te σ H rt) : tRet te ⟨nx, rt, bk, ct⟩ σ H := h
theorem rd_retN (h : rt .non H) : tRetN ⟨nx, rt, bk, ct⟩ σ H := h
theorem rd_brk (h : bk σ H) : tBreak ⟨nx, rt, bk, ct⟩ σ H := h
theorem rd_cont (h : ct σ H) : tCont ⟨nx, rt, bk, ct⟩ σ H := h
theorem rd_ifS {c : TT} (h : c σ H fun b H1 => if b = true then t1 ⟨nx, rt, bk, ct⟩ σ H1 else t2 ⟨nx, rt, bk, ct⟩ σ H1) : tIfS c t1 t2 ⟨nx, rt, bk, ct⟩ σ H := h
theorem rd_parA {n m : Nat} (h : tt σ H fun vs H1 => ∃ v w, vs = [v, w] ∧ nx ((σ.set n (some v)).set m (some w)) H1) : tPar n m tt ⟨nx, rt, bk, ct⟩ σ H := h
theorem rd_par3A {n m l : Nat} (h : tt σ H fun vs H1 => ∃ u v w, vs = [u, v, w] ∧ nx (((σ.set n (some u)).set m (some v)).set l (some w)) H1) : tPar3 n m l tt ⟨nx, rt, bk, ct⟩ σ H := h
theorem rd_par3 {u v w : V} {P : V → V → V → Prop} (h : P u v w) : ∃ u' v' w', [u, v, w] = [u', v', w'] ∧ P u' v' w' := ⟨u, v, w, rfl, h⟩
theorem rd_whileN {c : TT} {tb : TS} (W : Nat → L2.St → Hp → Prop) (m : Nat) (w0 : W m σ H) (hs : ∀ m σ H, W m σ H → c σ H fun b H1 => if b = true then ∃ N : L2.St → Hp → Prop, (∀ σ' H', N σ' H' → ∃ m', m' < m ∧ W m' σ' H') ∧ tb ⟨N, rt, nx, N⟩ σ H1 else nx σ H1) : tWhile c tb ⟨nx, rt, bk, ct⟩ σ H := ⟨W, ⟨m, w0⟩, hs⟩
theorem rd_par2 {v w : V} {P : V → V → Prop} (h : P v w) : ∃ v' w', [v, w] = [v', w'] ∧ P v' w' := ⟨v, w, rfl, h⟩
theorem rd_var (e : σ[n]? = some (some v)) (h : Q v H) : tVar n σ H Q := ⟨v, e, h⟩
theorem rd_c (h : Q v H) : tC v σ H Q := h
theorem rd_op {r : R2} (h : ta σ H fun x H1 => tb σ H1 fun y H2 => r x y H2 Q) : tOp r ta tb σ H Q := h
theorem rd_un {r : V → Hp → VK → Prop} (h : ta σ H fun x H1 => r x H1 Q) : tUn r ta σ H Q := h
theorem rd_cb {r : List V → Hp → VK → Prop} (h : tt σ H fun vs H1 => r vs H1 Q) : tCB r tt σ H Q := h
theorem rd_cons (h : te σ H fun x H1 => tt σ H1 fun xs H2 => QA (x :: xs) H2) : tCons te tt σ H QA := h
theorem rd_nil (h : QA [] H) : tNil σ H QA := h
theorem rd_test (h : te σ H fun x H' => ∃ k, x = .bl k ∧ QB k H') : tTest te σ H QB := h
theorem rd_B (h : te σ H fun x H' => ∃ k, x = .bl k ∧ QB k H') : tB te σ H QB := h
theorem rd_bl {P : Bool → Prop} (h : P b) : ∃ k, V.bl b = .bl k ∧ P k := ⟨b, rfl, h⟩
theorem rd_and (h : t σ H fun c H1 => if c = true then u σ H1 QB else QB false H1) : tAnd t u σ H QB := h
theorem rd_or (h : t σ H fun c H1 => if c = true then QB true H1 else u σ H1 QB) : tOr t u σ H QB := h
theorem rd_not (h : t σ H fun c H1 => QB (!c) H1) : tNot t σ H QB := h
theorem rd_andV (h : ta σ H fun x H1 => ∃ c, x = .bl c ∧ if c = true then tb σ H1 Q else Q (.bl false) H1) : tAndV ta tb σ H Q := h
theorem rd_orV (h : ta σ H fun x H1 => ∃ c, x = .bl c ∧ if c = true then Q (.bl true) H1 else tb σ H1 Q) : tOrV ta tb σ H Q := h
theorem rd_notV (h : ta σ H fun x H1 => ∃ c, x = .bl c ∧ Q (.bl (!c)) H1) : tNotV ta σ H Q := h
theorem rd_if (h : t σ H fun c H1 => if c = true then ta σ H1 Q else tb σ H1 Q) : tIf t ta tb σ H Q := h
theorem rd_I0 {g : Int → Int → V} (h : Q (g i j) H) : rI0 g (.int i) (.int j) H Q := ⟨i, j, rfl, rfl, h⟩
theorem rd_I {C : Int → Int → Prop} {g : Int → Int → V} (c : C i j) (h : Q (g i j) H) : rI C g (.int i) (.int j) H Q := ⟨i, j, rfl, rfl, c, h⟩
theorem rd_mod (c : 0 < j) (h : Q (.int (i % j)) H) : rI (fun _ j => 0 < j) (fun i j => .int (i % j)) (.int i) (.int j) H Q := ⟨i, j, rfl, rfl, c, h⟩
theorem cdivW (h : 0 < j) (hb : j < 2 ^ 100) : CDivW i j := wide_div (b := 100) h (by
  have e : ((2 : Int) ^ 100) = ((2 ^ 100 : Nat) : Int) := by decide
  rw [e] at hb
  omega) (by decide) (by decide)
theorem rd_div (c : 0 < j) (c2 : j < 2 ^ 100) (h : Q (.int (i / j)) H) : rI CDivW (fun i j => .int (i / j)) (.int i) (.int j) H Q := ⟨i, j, rfl, rfl, cdivW c c2, h⟩
theorem rd_mulR (c : -(2 ^ 64) < j) (c2 : j < 2 ^ 64) (h : Q (.int (i * j)) H) : rI CMul (fun i j => .int (i * j)) (.int i) (.int j) H Q := ⟨i, j, rfl, rfl, .inr ⟨c, c2⟩, h⟩
theorem rd_mulL (c : -(2 ^ 64) < i) (c2 : i < 2 ^ 64) (h : Q (.int (i * j)) H) : rI CMul (fun i j => .int (i * j)) (.int i) (.int j) H Q := ⟨i, j, rfl, rfl, .inl ⟨c, c2⟩, h⟩
theorem rd_pow (c : CPow i j) (h : Q (.int (i ^ j.toNat)) H) : rI CPow (fun i j => .int (i ^ j.toNat)) (.int i) (.int j) H Q := ⟨i, j, rfl, rfl, c, h⟩
theorem rd_U {g : Int → V} (h : Q (g i) H) : rU g (.int i) H Q := ⟨i, rfl, h⟩
theorem rd_eq (e : scal x y = true) (h : Q (.bl (decide (x = y))) H) : rEq x y H Q := ⟨e, h⟩
theorem rd_ne (e : scal x y = true) (h : Q (.bl (!decide (x = y))) H) : rNe x y H Q := ⟨e, h⟩
theorem rd_isNone (h : Q (.bl (decide (x = .non))) H) : rIsNone x .non H Q := ⟨rfl, h⟩
theorem rd_notNone (h : Q (.bl (!decide (x = .non))) H) : rNotNone x .non H Q := ⟨rfl, h⟩
theorem rd_ixL {p : Addr} {xs : List V} (h : SqL K H p xs) (e : atI xs i = some v) (q : Q v H) : rIxL K (.ref p) (.int i) H Q := ⟨p, xs, i, v, rfl, rfl, h, e, q⟩
theorem rd_ixT {p : Addr} {xs : List V} (h : SqT K H p xs) (e : atI xs i = some v) (q : Q v H) : rIxT K (.ref p) (.int i) H Q := ⟨p, xs, i, v, rfl, rfl, h, e, q⟩
theorem rd_ixS {z : Str} {c : Nat} (hz : z.length ≤ sizeLine) (e : atI z.cps.toList i = some c) (q : Q (.str ⟨#[c]⟩) H) : rIxS (.str z) (.int i) H Q := ⟨z, i, c, rfl, rfl, hz, e, q⟩
theorem rd_lenL {p : Addr} {xs : List V} (h : SqL K H p xs) (q : Q (.int xs.length) H) : rLenSeq K [.ref p] H Q := ⟨p, xs, rfl, .inl h, q⟩
theorem rd_lenT {p : Addr} {xs : List V} (h : SqT K H p xs) (q : Q (.int xs.length) H) : rLenSeq K [.ref p] H Q := ⟨p, xs, rfl, .inr h, q⟩
theorem rd_lenS {z : Str} (hz : z.length ≤ sizeLine) (q : Q (.int z.length) H) : rLenStr [.str z] H Q := ⟨z, rfl, hz, q⟩
theorem rd_abs (q : Q (.int (if i < 0 then -i else i)) H) : rAbs [.int i] H Q := ⟨i, rfl, q⟩
theorem rd_int (q : Q (.int i) H) : rInt1 [.int i] H Q := .inl ⟨i, rfl, q⟩
theorem rd_max (q : Q (.int (if j > i then j else i)) H) : rMaxI [.int i, .int j] H Q := ⟨i, j, rfl, q⟩
theorem rd_min (q : Q (.int (if j < i then j else i)) H) : rMinI [.int i, .int j] H Q := ⟨i, j, rfl, q⟩
theorem rd_strS {z : Str} (q : Q (.str z) H) : rStrS [.str z] H Q := ⟨z, rfl, q⟩
theorem rd_listL {p : Addr} {xs : List V} (h : SqL K H p xs) (q : ∀ l, H l = none → Q (.ref l) (upd H l (.lst xs))) : rListOf K [.ref p] H Q := ⟨p, xs, rfl, .inl h, q⟩
theorem rd_listT {p : Addr} {xs : List V} (h : SqT K H p xs) (q : ∀ l, H l = none → Q (.ref l) (upd H l (.lst xs))) : rListOf K [.ref p] H Q := ⟨p, xs, rfl, .inr h, q⟩
theorem rd_tupL {p : Addr} {xs : List V} (h : SqL K H p xs) (q : ∀ l, H l = none → Q (.ref l) (upd H l (.tup xs))) : rTupOf K [.ref p] H Q := ⟨p, xs, rfl, .inl ⟨h, q⟩⟩
theorem rd_tupT {p : Addr} {xs : List V} (h : SqT K H p xs) (q : Q (.ref p) H) : rTupOf K [.ref p] H Q := ⟨p, xs, rfl, .inr ⟨h, q⟩⟩
theorem rd_addS {z w : Str} (hz : z.length + w.length ≤ sizeLine) (q : Q (.str (z ++ w)) H) : rAddStr (.str z) (.str w) H Q := ⟨z, w, rfl, rfl, hz, q⟩
theorem rd_inSign {c : Nat} {z : Str} (q : Q (.bl (decide (c ∈ z.cps.toList))) H) : rInSign (.str ⟨#[c]⟩) (.str z) H Q := ⟨c, z, rfl, rfl, q⟩
theorem rd_notInSign {c : Nat} {z : Str} (q : Q (.bl (!decide (c ∈ z.cps.toList))) H) : rNotInSign (.str ⟨#[c]⟩) (.str z) H Q := ⟨c, z, rfl, rfl, q⟩
theorem rd_tup (h : tt σ H fun xs H1 => xs.length ≤ sizeLine ∧ ∀ p, H1 p = none → Q (.ref p) (upd H1 p (.tup xs))) : tTup tt σ H Q := h
theorem rd_lst (h : tt σ H fun xs H1 => xs.length ≤ sizeLine ∧ ∀ p, H1 p = none → Q (.ref p) (upd H1 p (.lst xs))) : tLst tt σ H Q := h
theorem sz_of {n : Nat} (h : n ≤ 100000) : n ≤ sizeLine := Nat.le_trans h (by decide)
theorem sz_lt {n : Nat} (h : n < 100000) : n < sizeLine := Nat.lt_of_lt_of_le h (by decide)
theorem rd_new {xs : List V} {P : Addr → Prop} (e : xs.length ≤ sizeLine) (h : ∀ p, P p) : xs.length ≤ sizeLine ∧ ∀ p, P p := ⟨e, h⟩
theorem rd_slL {p : Addr} {xs : List V} {lo hi : Option Int} (h : SqL K H p xs) (q : ∀ l, H l = none → Q (.ref l) (upd H l (.lst (cutV xs lo hi)))) : rSlL K (.ref p) lo hi H Q := ⟨p, xs, rfl, h, q⟩
theorem rd_slS {z : Str} {lo hi : Option Int} (hz : z.length ≤ sizeLine) (q : Q (.str (cutS z lo hi)) H) : rSlS (.str z) lo hi H Q := ⟨z, rfl, hz, q⟩
theorem rd_sl {r : V → Option Int → Option Int → Hp → VK → Prop} {tl th : TO} (h : te σ H fun x H1 => tl σ H1 fun l H2 => th σ H2 fun u H3 => r x l u H3 Q) : tSl r te tl th σ H Q := h
theorem rd_noPart {P : Option Int → Hp → Prop} (h : P none H) : tNoPart σ H P := h
theorem rd_part {P : Option Int → Hp → Prop} (h : te σ H fun x H1 => ∃ i, x = .int i ∧ P (some i) H1) : tPart te σ H P := h
theorem rd_isInt {P : Int → Prop} (h : P i) : ∃ k, V.int i = .int k ∧ P k := ⟨i, rfl, h⟩
/-- an attribute -/
def FldK (K : PySem.W.Frag) (f : Str) (x : V) (H : Hp) (Q : VK) : Prop := ∃ a C dx fs v, x = .ref a ∧ H a = some (.ins C dx fs) ∧ Cls K C ∧ NoAttr K C f ∧ fs.lookup f = some v ∧ Q v H
theorem rd_fld (h : ta σ H fun x H1 => FldK K f x H1 Q) : tFld K ta f σ H Q := h
theorem rd_fldK {a C dx : Addr} {fs : List (Str × V)} (e : H a = some (.ins C dx fs)) (c : Cls K C) (n : NoAttr K C f) (l : fs.lookup f = some v) (q : Q v H) : FldK K f (.ref a) H Q := ⟨a, C, dx, fs, v, rfl, e, c, n, l, q⟩
def SFldK (K : PySem.W.Frag) (f : Str) (y x : V) (H : Hp) (P : Hp → Prop) : Prop := ∃ a C dx fs, x = .ref a ∧ H a = some (.ins C dx fs) ∧ Cls K C ∧ NoAttr K C f ∧ fs.length < 1000 ∧ P (upd H a (.ins C dx (putF f y fs)))
theorem rd_sfld (h : tv σ H fun y H1 => ta σ H1 fun x H2 => SFldK K f y x H2 (nx σ)) : sFld K ta tv f ⟨nx, rt, bk, ct⟩ σ H := h
theorem rd_sfldK {a C dx : Addr} {fs : List (Str × V)} {P : Hp → Prop} (e : H a = some (.ins C dx fs)) (c : Cls K C) (n : NoAttr K C f) (l : fs.length < 1000) (q : P (upd H a (.ins C dx (putF f y fs)))) : SFldK K f y (.ref a) H P := ⟨a, C, dx, fs, rfl, e, c, n, l, q⟩
/-- e.f += n, ints -/
theorem rd_sfldAdd {a C dx : Addr} {fs : List (Str × V)} (ha : ta σ H fun x H1 => x = .ref a ∧ H1 = H) (e : H a = some (.ins C dx fs)) (c : Cls K C) (n : NoAttr K C f) (l : fs.lookup f = some (.int i)) (hv : tv σ H fun y H1 => y = .int j ∧ H1 = H)
    (mt : ∀ Q Q' : VK, (∀ v H, Q v H → Q' v H) → tv σ H Q → tv σ H Q') (ma : ∀ Q Q' : VK, (∀ v H, Q v H → Q' v H) → ta σ H Q → ta σ H Q') (hl : fs.length < 1000) (q : D.nx σ (upd H a (.ins C dx (putF f (.int (i + j)) fs)))) : sFldAug K ta tv rAdd f D σ H :=
  ma _ _ (fun x H1 ⟨ex, eh⟩ => by
    subst ex eh
    refine ⟨a, C, dx, fs, .int i, rfl, e, c, n, l, mt _ _ (fun y H2 ⟨ey, eh⟩ => ?_) hv⟩
    subst ey eh
    exact ⟨i, j, rfl, rfl, dx, fs, e, hl, q⟩) ha
def AugK (K : PySem.W.Frag) (f : Str) (tv : TE) (rd : V → V → Hp → VK → Prop) (σ : L2.St) (x : V) (H1 : Hp) (P : Hp → Prop) : Prop := ∃ a C dx fs v, x = .ref a ∧ H1 a = some (.ins C dx fs) ∧ Cls K C ∧ NoAttr K C f ∧ fs.lookup f = some v ∧
  tv σ H1 fun y H2 => rd v y H2 fun z H3 => ∃ dx' fs', H3 a = some (.ins C dx' fs') ∧ fs'.length < 1000 ∧ P (upd H3 a (.ins C dx' (putF f z fs')))
theorem rd_aug {rd : V → V → Hp → VK → Prop} (h : ta σ H fun x H1 => AugK K f tv rd σ x H1 (nx σ)) : sFldAug K ta tv rd f ⟨nx, rt, bk, ct⟩ σ H := h
theorem rd_augK {rd : V → V → Hp → VK → Prop} {a C dx : Addr} {fs : List (Str × V)} {P : Hp → Prop} (e : H a = some (.ins C dx fs)) (c : Cls K C) (n : NoAttr K C f) (l : fs.lookup f = some v)
    (q : tv σ H fun y H2 => rd v y H2 fun z H3 => ∃ dx' fs', H3 a = some (.ins C dx' fs') ∧ fs'.length < 1000 ∧ P (upd H3 a (.ins C dx' (putF f z fs')))) : AugK K f tv rd σ (.ref a) H P := ⟨a, C, dx, fs, v, rfl, e, c, n, l, q⟩
theorem rd_rAdd (q : Q (.int (i + j)) H) : rAdd (.int i) (.int j) H Q := ⟨i, j, rfl, rfl, q⟩
theorem rd_augE {a C dx : Addr} {fs : List (Str × V)} {P : Addr → List (Str × V) → Prop} (e : H a = some (.ins C dx fs)) (l : fs.length < 1000) (q : P dx fs) : ∃ dx' fs', H a = some (.ins C dx' fs') ∧ fs'.length < 1000 ∧ P dx' fs' := ⟨dx, fs, e, l, q⟩
/-- calls -/
theorem rd_call {sp : Sp} {E : XK} (h : tt σ H fun vs H1 => sp (vs ++ []) H1 Q E) : tCall sp [] E tt σ H Q := h
def MethK (C : Addr) (m : Str) (sp : Sp) (E : XK) (t : TA) (σ : L2.St) (x : V) (H1 : Hp) (Q : VK) : Prop := ∃ a dx fs, x = .ref a ∧ H1 a = some (.ins C dx fs) ∧ fs.lookup m = none ∧ t σ H1 fun vs H2 => sp (x :: (vs ++ [])) H2 Q E
theorem rd_meth {C : Addr} {m : Str} {sp : Sp} {E : XK} (h : ta σ H fun x H1 => MethK C m sp E tt σ x H1 Q) : tMeth C m sp [] E ta tt σ H Q := h
theorem rd_methK {C a dx : Addr} {m : Str} {sp : Sp} {E : XK} {fs : List (Str × V)} (e : H a = some (.ins C dx fs)) (l : fs.lookup m = none) (q : tt σ H fun vs H2 => sp (.ref a :: (vs ++ [])) H2 Q E) : MethK C m sp E tt σ (.ref a) H Q := ⟨a, dx, fs, rfl, e, l, q⟩
theorem rd_make {C : Addr} {sp : Sp} {E : XK} (h : tt σ H fun vs H1 => ∀ x dx, H1 x = none → H1 dx = none → dx ≠ x → sp (.ref x :: (vs ++ [])) (upd (upd H1 dx (.own x)) x (.ins C dx [])) (fun v H2 => v = .non ∧ Q (.ref x) H2) E) : tMake C sp [] E tt σ H Q := h
theorem rd_makeL {C : Addr} {sp : Sp} {E : XK} (e : σ[n]? = some (some (.ref C))) (h : tMake C sp [] E tt σ H Q) : tMakeL n C sp E tt σ H Q := ⟨e, h⟩
theorem rd_smeth {C : Addr} {sp : Sp} {E : XK} (h : ta σ H fun x H1 => x = .ref C ∧ tt σ H1 fun vs H2 => sp (vs ++ []) H2 Q E) : tSMeth C sp E ta tt σ H Q := h
theorem rd_isC {C : Addr} {P : Prop} (h : P) : V.ref C = .ref C ∧ P := ⟨rfl, h⟩
theorem rd_smethK {C : Addr} {sp : Sp} {E : XK} {gV : List V → List V → List V} (h : ta σ H fun x H1 => x = .ref C ∧ tt σ H1 fun zs H2 => sp (gV [] zs) H2 Q E) : tSMethK C sp gV E ta tt σ H Q := h
theorem rd_cmeth {C : Addr} {sp : Sp} {E : XK} (h : ta σ H fun x H1 => x = .ref C ∧ tt σ H1 fun vs H2 => sp (.ref C :: vs) H2 Q E) : ClX.tCMeth C sp E ta tt σ H Q := h
theorem rd_cmethK {C : Addr} {sp : Sp} {E : XK} {gV : List V → List V → List V} (h : ta σ H fun x H1 => x = .ref C ∧ tt σ H1 fun zs H2 => sp (gV [.ref C] zs) H2 Q E) : tCMethK C sp gV E ta tt σ H Q := h
/-- methods of built-in types -/
def BmK (K : PySem.W.Frag) (T : String) (r : V → List V → Hp → VK → Prop) (t : TA) (σ : L2.St) (x : V) (H1 : Hp) (Q : VK) : Prop := tyV K T x H1 ∧ t σ H1 fun xs H2 => r x xs H2 Q
theorem rd_bm {T : String} {r : V → List V → Hp → VK → Prop} (h : ta σ H fun x H1 => BmK K T r tt σ x H1 Q) : tBM K T r ta tt σ H Q := h
theorem rd_bmL {r : V → List V → Hp → VK → Prop} {p : Addr} {xs : List V} (e : H p = some (.lst xs)) (q : tt σ H fun xs H2 => r (.ref p) xs H2 Q) : BmK K "list" r tt σ (.ref p) H Q := ⟨.inl ⟨rfl, _, SqL.of e⟩, q⟩
def Bm0K (K : PySem.W.Frag) (T : String) (r : V → List V → Hp → VK → Prop) (x : V) (H1 : Hp) (Q : VK) : Prop := tyV K T x H1 ∧ r x [] H1 Q
theorem rd_bm0 {T : String} {r : V → List V → Hp → VK → Prop} (h : ta σ H fun x H1 => Bm0K K T r x H1 Q) : tBM0 K T r ta σ H Q := h
theorem rd_bm0L {r : V → List V → Hp → VK → Prop} {p : Addr} {xs : List V} (e : H p = some (.lst xs)) (q : r (.ref p) [] H Q) : Bm0K K "list" r (.ref p) H Q := ⟨.inl ⟨rfl, _, SqL.of e⟩, q⟩
theorem rd_append {p : Addr} {xs : List V} (e : H p = some (.lst xs)) (l : xs.length < sizeLine) (q : Q .non (upd H p (.lst (xs ++ [y])))) : rAppend (.ref p) [y] H Q := ⟨p, xs, y, rfl, rfl, e, l, q⟩
theorem rd_clear {p : Addr} {xs : List V} (e : H p = some (.lst xs)) (q : Q .non (upd H p (.lst []))) : rClear (.ref p) [] H Q := ⟨p, xs, rfl, rfl, e, q⟩
theorem rd_pop {p : Addr} {xs : List V} (e : H p = some (.lst xs)) (l : xs[xs.length - 1]? = some y) (q : Q y (upd H p (.lst xs.dropLast))) : rPop (.ref p) [] H Q := ⟨p, xs, y, rfl, rfl, e, l, q⟩
theorem rd_popAt {p : Addr} {xs : List V} {k : Nat} (e : H p = some (.lst xs)) (hk : xs[k]? = some y) (hb : xs.length ≤ 100000) (q : Q y (upd H p (.lst (xs.eraseIdx k)))) : rPopAt (.ref p) [.int (k : Nat)] H Q := by
  have hl := (List.getElem?_eq_some_iff.mp hk).1
  refine ⟨p, xs, (k : Nat), k, y, rfl, rfl, e, by omega, by omega, ?_, hk, q⟩
  unfold seqIndex?
  have hn : ¬ ((k : Nat) : Int) < 0 := by omega
  simp only [if_neg hn]
  simp
  omega
theorem rd_cat {p r : Addr} {xs ys : List V} (e : H p = some (.lst xs)) (e2 : H r = some (.lst ys)) (hb : xs.length + ys.length ≤ 100000) (q : ∀ l, H l = none → Q (.ref l) (upd H l (.lst (xs ++ ys)))) : rCat (.ref p) (.ref r) H Q := ⟨p, r, xs, ys, rfl, rfl, e, e2, sz_of hb, q⟩
theorem rd_all {p : Addr} {bs : List Bool} (h : SqL K H p (bs.map V.bl)) (q : Q (.bl (bs.all id)) H) : rAll K [.ref p] H Q := ⟨p, bs, rfl, h, q⟩
theorem rd_m1 {r : V → List V → Hp → VK → Prop} (h : ta σ H fun x H1 => (∃ a, x = .str a) ∧ tb σ H1 fun y H2 => r x [y] H2 Q) : tM1 r ta tb σ H Q := h
theorem rd_isStr {z : Str} {P : Prop} (h : P) : (∃ a, V.str z = .str a) ∧ P := ⟨⟨z, rfl⟩, h⟩
def CValK (K : PySem.W.Frag) (f : Str) (x : V) (H : Hp) (Q : VK) : Prop := ∃ C mc v u, x = .ref C ∧ ClX.CRead K C mc ∧ ClX.CVal K C mc f v u ∧ Q v H
theorem rd_cval (h : ta σ H fun x H1 => CValK K f x H1 Q) : ClX.tCVal K ta f σ H Q := h
theorem rd_cvalK {C : Addr} {mc u : Value} (r : ClX.CRead K C mc) (c : ClX.CVal K C mc f v u) (q : Q v H) : CValK K f (.ref C) H Q := ⟨C, mc, v, u, rfl, r, c, q⟩
theorem rd_setL {p : Addr} {xs : List V} {m : Nat} {P : Hp → Prop} (e : H p = some (.lst xs)) (l : ixN xs.length i = some m) (q : P (upd H p (.lst (xs.set m v)))) : rSetL (.ref p) (.int i) v H P := ⟨p, xs, i, m, rfl, rfl, e, l, q⟩
theorem rd_gsub {to ti : TE} {ts : TSet} (h : to σ H fun o H1 => ti σ H1 fun i H2 => ts o i v H2 fun H3 => k σ H3) : gSub to ti ts v σ H k := h
theorem rd_gtup {a : Addr} {xs : List V} {m : Nat} {ts : TGs} (e : SqT K H a xs) (l : xs.length = m) (q : ts xs σ H k) : gTup K m ts (.ref a) σ H k := ⟨a, xs, rfl, e, l, q⟩
theorem rd_gcons {r : List V} {ts : TGs} (h : g v σ H fun σ' H' => ts r σ' H' k) : gCons g ts (v :: r) σ H k := ⟨v, r, rfl, h⟩
theorem rd_gnil (h : k σ H) : gNil [] σ H k := ⟨rfl, h⟩
theorem rd_isi {x c : V} {t u : Value} (k : ClsV c u) (ty : TyX K H x t) (e : PySem.W.kitOne K t u = some b) (q : Q (.bl b) H) : rIsi K [x, c] H Q := ⟨x, c, t, u, b, rfl, k, ty, e, q⟩
theorem rd_inSeqL {p : Addr} {xs : List V} {neg : Bool} (h : SqL K H p xs) (fx : flatV x = true) (fa : xs.all flatV = true) (q : Q (.bl (if neg then !inV x xs else inV x xs)) H) : rIn K neg x (.ref p) H Q := ⟨p, xs, rfl, .inl h, fx, fa, q⟩
theorem rd_inSeqT {p : Addr} {xs : List V} {neg : Bool} (h : SqT K H p xs) (fx : flatV x = true) (fa : xs.all flatV = true) (q : Q (.bl (if neg then !inV x xs else inV x xs)) H) : rIn K neg x (.ref p) H Q := ⟨p, xs, rfl, .inr h, fx, fa, q⟩
theorem rd_eqD {d e : PyData} (hx : Dp K H x d) (hy : Dp K H y e) (s1 : SeqAt.shaped d = true) (s2 : SeqAt.shaped e = true) (q : Q (.bl (PyData.eqv d e)) H) : rEqD K x y H Q := ⟨d, e, hx, hy, s1, s2, q⟩
theorem rd_neD {d e : PyData} (hx : Dp K H x d) (hy : Dp K H y e) (s1 : SeqAt.shaped d = true) (s2 : SeqAt.shaped e = true) (q : Q (.bl (!PyData.eqv d e)) H) : rNeD K x y H Q := ⟨d, e, hx, hy, s1, s2, q⟩
theorem ifT {A B : Prop} (e : b = true) (h : A) : if b = true then A else B := by
  rw [if_pos e]
  exact h
theorem ifF {A B : Prop} (e : b = false) (h : B) : if b = true then A else B := by
  rw [e, if_neg Bool.false_ne_true]
  exact h
theorem ifB {A B : Prop} (h1 : b = true → A) (h2 : b = false → B) : if b = true then A else B := by
  cases b with
  | true => exact ifT rfl (h1 rfl)
  | false => exact ifF rfl (h2 rfl)
/-- an if on a decision -/
theorem ifD {c : Prop} [Decidable c] {A B : Prop} (h1 : c → A) (h2 : ¬ c → B) : if decide c = true then A else B := by
  by_cases h : c
  · exact ifT (decide_eq_true h) (h1 h)
  · exact ifF (decide_eq_false h) (h2 h)
theorem ifN {c : Prop} [Decidable c] {A B : Prop} (h1 : ¬ c → A) (h2 : c → B) : if (!decide c) = true then A else B := by
  by_cases h : c
  · exact ifF (by rw [decide_eq_true h]; rfl) (h2 h)
  · exact ifT (by rw [decide_eq_false h]; rfl) (h1 h)
end

/-! ### loops -/
def ForK (J : It) (g : TG) (tb : TS) (D : Ends) (σ : L2.St) (H1 : Hp) : Prop := ∃ W : Nat → Nat → L2.St → Hp → Prop, (∃ m, W 0 m σ H1) ∧ ∀ i m σ H, W i m σ H →
  (J.stop i H ∧ D.nx σ H) ∨ (J.go i H ∧ ∃ N : L2.St → Hp → Prop, (∀ σ' H', N σ' H' → ∃ m', m' < m ∧ W (i + 1) m' σ' H') ∧ ∀ x H', J.yld i H x H' → g x σ H' fun σ2 H2 => tb { D with nx := N, ct := N, bk := D.nx } σ2 H2)
section
variable {K : PySem.W.Frag} {σ : L2.St} {H : Hp} {g : TG} {tb : TS} {D : Ends} {nx bk ct : L2.St → Hp → Prop} {rt : VK} {a : Addr} {xs : List V} {tl : TE} {ta : TA} {R : It → Hp → Prop}
theorem rd_for {wi : TI} (h : wi σ H fun J H1 => ForK J g tb ⟨nx, rt, bk, ct⟩ σ H1) : tFor wi g tb ⟨nx, rt, bk, ct⟩ σ H := h
def IList (K : PySem.W.Frag) (x : V) (H : Hp) (R : It → Hp → Prop) : Prop := ∃ a, x = .ref a ∧ (∃ xs, SqL K H a xs) ∧ R (Itl K a) H
def ITup (K : PySem.W.Frag) (x : V) (H : Hp) (R : It → Hp → Prop) : Prop := ∃ a, x = .ref a ∧ (∃ xs, SqT K H a xs) ∧ R (Itt K a) H
theorem rd_iList (h : tl σ H fun x H1 => IList K x H1 R) : iList K tl σ H R := h
theorem rd_IList (h : SqL K H a xs) (q : R (Itl K a) H) : IList K (.ref a) H R := ⟨a, rfl, ⟨xs, h⟩, q⟩
theorem rd_iTup (h : tl σ H fun x H1 => ITup K x H1 R) : iTup K tl σ H R := h
theorem rd_ITup (h : SqT K H a xs) (q : R (Itt K a) H) : ITup K (.ref a) H R := ⟨a, rfl, ⟨xs, h⟩, q⟩
def IEnum (K : PySem.W.Frag) (vs : List V) (H : Hp) (R : It → Hp → Prop) : Prop := ∃ a xs, vs = [.ref a] ∧ SqL K H a xs ∧ R (Ite K a) H
theorem rd_iEnum (h : ta σ H fun vs H1 => IEnum K vs H1 R) : iEnum K ta σ H R := h
theorem rd_IEnum (h : SqL K H a xs) (q : R (Ite K a) H) : IEnum K [.ref a] H R := ⟨a, xs, rfl, h, q⟩
def IRng1 (vs : List V) (H : Hp) (R : It → Hp → Prop) : Prop := ∃ j : Int, vs = [.int j] ∧ -(2 ^ 62) ≤ j ∧ j < 2 ^ 62 ∧ R (Itr 0 j.toNat) H
theorem rd_iRng1 (h : ta σ H fun vs H1 => IRng1 vs H1 R) : iRng1 ta σ H R := h
theorem rd_IRng1 {j : Int} (h : -(2 ^ 62) ≤ j) (h2 : j < 2 ^ 62) (q : R (Itr 0 j.toNat) H) : IRng1 [.int j] H R := ⟨j, rfl, h, h2, q⟩
def IRng2 (vs : List V) (H : Hp) (R : It → Hp → Prop) : Prop := ∃ i j : Int, vs = [.int i, .int j] ∧ (-(2 ^ 62) ≤ i ∧ i < 2 ^ 62 ∧ -(2 ^ 62) ≤ j ∧ j < 2 ^ 62) ∧ R (Itr i (j - i).toNat) H
theorem rd_iRng2 (h : ta σ H fun vs H1 => IRng2 vs H1 R) : iRng2 ta σ H R := h
theorem rd_IRng2 {i j : Int} (h : -(2 ^ 62) ≤ i ∧ i < 2 ^ 62 ∧ -(2 ^ 62) ≤ j ∧ j < 2 ^ 62) (q : R (Itr i (j - i).toNat) H) : IRng2 [.int i, .int j] H R := ⟨i, j, rfl, h, q⟩
theorem fk_list (Pv : Nat → L2.St → Hp → Prop) (h0 : Pv 0 σ H) (hl : ∀ i σ H, i ≤ xs.length → Pv i σ H → SqL K H a xs)
    (hs : ∀ i x σ H, xs[i]? = some x → Pv i σ H → g x σ H fun σ2 H2 => tb ⟨Pv (i + 1), rt, nx, Pv (i + 1)⟩ σ2 H2) (hd : ∀ σ H, Pv xs.length σ H → nx σ H) : ForK (Itl K a) g tb ⟨nx, rt, bk, ct⟩ σ H := for_list Pv h0 hl hs hd
theorem fk_tup (Pv : Nat → L2.St → Hp → Prop) (h0 : Pv 0 σ H) (hl : ∀ i σ H, i ≤ xs.length → Pv i σ H → SqT K H a xs)
    (hs : ∀ i x σ H, xs[i]? = some x → Pv i σ H → g x σ H fun σ2 H2 => tb ⟨Pv (i + 1), rt, nx, Pv (i + 1)⟩ σ2 H2) (hd : ∀ σ H, Pv xs.length σ H → nx σ H) : ForK (Itt K a) g tb ⟨nx, rt, bk, ct⟩ σ H := for_tup Pv h0 hl hs hd
theorem fk_range {n : Nat} (Pv : Nat → L2.St → Hp → Prop) (h0 : Pv 0 σ H)
    (hs : ∀ (i : Nat) σ H, i < n → Pv i σ H → g (.int (i : Int)) σ H fun σ2 H2 => tb ⟨Pv (i + 1), rt, nx, Pv (i + 1)⟩ σ2 H2) (hd : ∀ σ H, Pv n σ H → nx σ H) : ForK (Itr 0 n) g tb ⟨nx, rt, bk, ct⟩ σ H :=
  for_range Pv h0 (fun i σ H hi p => by
    have e : (0 : Int) + (i : Int) = (i : Int) := Int.zero_add _
    rw [e]
    exact hs i σ H hi p) hd
theorem fk_range2 {lo : Int} {n : Nat} (Pv : Nat → L2.St → Hp → Prop) (h0 : Pv 0 σ H)
    (hs : ∀ (i : Nat) σ H, i < n → Pv i σ H → g (.int (lo + (i : Int))) σ H fun σ2 H2 => tb ⟨Pv (i + 1), rt, nx, Pv (i + 1)⟩ σ2 H2) (hd : ∀ σ H, Pv n σ H → nx σ H) : ForK (Itr lo n) g tb ⟨nx, rt, bk, ct⟩ σ H :=
  for_range Pv h0 hs hd
theorem fk_enum (Pv : Nat → L2.St → Hp → Prop) (h0 : Pv 0 σ H) (hl : ∀ i σ H, i ≤ xs.length → Pv i σ H → SqL K H a xs)
    (hs : ∀ (i : Nat) x T σ H, xs[i]? = some x → H T = none → Pv i σ H → g (.ref T) σ (upd H T (.tup [.int (i : Nat), x])) fun σ2 H2 => tb ⟨Pv (i + 1), rt, nx, Pv (i + 1)⟩ σ2 H2) (hd : ∀ σ H, Pv xs.length σ H → nx σ H) : ForK (Ite K a) g tb ⟨nx, rt, bk, ct⟩ σ H := by
  refine ⟨fun i m σ H => m = xs.length - i ∧ i ≤ xs.length ∧ Pv i σ H, ⟨xs.length, by simp, Nat.zero_le _, h0⟩, ?_⟩
  rintro i m σ H ⟨rfl, hi, p⟩
  have q := hl i σ H hi p
  by_cases hlt : i < xs.length
  · refine .inr ⟨⟨xs, xs[i], q, by simp [hlt]⟩, Pv (i + 1), fun σ' H' p' => ⟨xs.length - (i + 1), by omega, rfl, hlt, p'⟩, fun x H' y => ?_⟩
    obtain ⟨T, z, rfl, hT, rfl, y⟩ := y
    exact hs i z T σ _ (y xs q) hT p
  · have e : i = xs.length := by omega
    subst e
    exact .inl ⟨⟨xs, q, Nat.le_refl _⟩, hd σ H p⟩
/-! ### comprehensions -/
def LcK (J : It) (g : TG) (tt : TT) (te : TE) (vs : List Nat) (σ : L2.St) (H1 : Hp) (Q : VK) : Prop := ∀ D, H1 D = none → ∃ W : Nat → Nat → Hp → Prop, (∃ m, W 0 m (upd H1 D (.lst []))) ∧ ∀ i m H, W i m H →
  (J.stop i H ∧ Q (.ref D) H) ∨ (J.go i H ∧ ∃ Nx : Hp → Prop, (∀ H', Nx H' → ∃ m', m' < m ∧ W (i + 1) m' H') ∧ ∀ x H', J.yld i H x H' → g x (wipe σ vs) H' fun σ2 H2 => wipe σ2 vs = wipe σ vs ∧ tt σ2 H2 fun b H3 =>
    if b = true then te σ2 H3 fun y H4 => ∃ acc, H4 D = some (.lst acc) ∧ acc.length < sizeLine ∧ Nx (upd H4 D (.lst (acc ++ [y]))) else Nx H3)
variable {tt : TT} {te : TE} {vs : List Nat} {Q : VK}
theorem rd_lc {wi : TI} (h : wi σ H fun J H1 => LcK J g tt te vs σ H1 Q) : tLc wi g tt te vs σ H Q := h
/-- what stands in the new list behind n turns -/
theorem filter_take_succ {ρ : Type} {rows : List ρ} {i : Nat} {r : ρ} (f : ρ → Bool) (h : rows[i]? = some r) : (rows.take (i + 1)).filter f = (rows.take i).filter f ++ (if f r then [r] else []) := by
  rw [List.take_add_one, h, List.filter_append]
  congr 1
  simp [List.filter]
  split <;> simp_all
theorem small_len {ρ α : Type} {rows : List ρ} {n : Nat} (f : ρ → Bool) (v : ρ → α) (h : rows.length ≤ n) (i : Nat) : (((rows.take i).filter f).map v).length ≤ n := by
  rw [List.length_map]
  have h1 := List.length_filter_le f (rows.take i)
  have h2 : (rows.take i).length ≤ rows.length := by rw [List.length_take]; omega
  omega
theorem lcRows {ρ : Type} {rows : List ρ} {J : It} {n : Nat} (hn : n = rows.length) (hz : n ≤ 100000) (f : ρ → Bool) (v : ρ → V)
    (hst : ∀ H', Same H H' → J.stop n H') (hgo : ∀ i H', Same H H' → i < n → J.go i H')
    (turn : ∀ i r H1, rows[i]? = some r → Same H H1 → ∀ x H2, J.yld i H1 x H2 → ∀ (Done : Hp → Prop) (Kept : VK), (∀ H3, Same H1 H3 → f r = false → Done H3) → (∀ H3, Same H1 H3 → f r = true → Kept (v r) H3) →
      g x (wipe σ vs) H2 fun σ2 H2 => wipe σ2 vs = wipe σ vs ∧ tt σ2 H2 fun b H3 => if b = true then te σ2 H3 Kept else Done H3)
    (q : ∀ D H', H D = none → Same H H' → H' D = some (.lst ((rows.filter f).map v)) → Q (.ref D) H') : LcK J g tt te vs σ H Q := by
  intro D hD
  refine ⟨fun i m H' => m = n - i ∧ i ≤ n ∧ Same H H' ∧ H' D = some (.lst (((rows.take i).filter f).map v)), ⟨n, by simp, Nat.zero_le _, same_new hD, upd_same⟩, ?_⟩
  rintro i m H1 ⟨rfl, hi, s1, h1⟩
  by_cases hlt : i < n
  · refine .inr ⟨hgo i H1 s1 hlt, fun H' => i + 1 ≤ n ∧ Same H H' ∧ H' D = some (.lst (((rows.take (i + 1)).filter f).map v)), fun H' p' => ⟨n - (i + 1), by omega, rfl, p'⟩, fun x H2 y => ?_⟩
    have hr : i < rows.length := by omega
    refine turn i rows[i] H1 (List.getElem?_eq_getElem hr) s1 x H2 y _ _ (fun H3 s3 hf => ?_) (fun H3 s3 hf => ?_)
    · refine ⟨hlt, s1.trans s3, ?_⟩
      rw [filter_take_succ f (List.getElem?_eq_getElem hr), hf]
      simp only [Bool.false_eq_true, if_false, List.append_nil]
      exact s3 _ _ h1
    · refine ⟨_, s3 _ _ h1, ?_, hlt, same_mut (s1.trans s3) hD, ?_⟩
      · have := small_len (rows := rows) (n := n) f v (by omega) i
        rw [sizeLine_eq]
        omega
      · rw [filter_take_succ f (List.getElem?_eq_getElem hr), hf]
        simp only [if_true, List.map_append, List.map_cons, List.map_nil]
        exact upd_same
  · have e : i = n := by omega
    subst e
    refine .inl ⟨hst H1 s1, q D H1 hD s1 ?_⟩
    rw [h1, hn, List.take_length]
/-- over a list that stands -/
theorem lcL {ρ : Type} {rows : List ρ} (hn : xs.length = rows.length) (hz : xs.length ≤ 100000) (hx : SqL K H a xs) (f : ρ → Bool) (v : ρ → V)
    (turn : ∀ (i : Nat) x r H1, xs[i]? = some x → rows[i]? = some r → Same H H1 → ∀ (Done : Hp → Prop) (Kept : VK), (∀ H3, Same H1 H3 → f r = false → Done H3) → (∀ H3, Same H1 H3 → f r = true → Kept (v r) H3) →
      g x (wipe σ vs) H1 fun σ2 H2 => wipe σ2 vs = wipe σ vs ∧ tt σ2 H2 fun b H3 => if b = true then te σ2 H3 Kept else Done H3)
    (q : ∀ D H', H D = none → Same H H' → H' D = some (.lst ((rows.filter f).map v)) → Q (.ref D) H') : LcK (Itl K a) g tt te vs σ H Q := by
  refine lcRows hn hz f v (fun H' s => ⟨xs, s.seq hx, Nat.le_refl _⟩) (fun i H' s hi => ⟨xs, xs[i], s.seq hx, by simp [hi]⟩) (fun i r H1 hr s1 x H2 y Done Kept hd hk => ?_) q
  obtain ⟨rfl, y⟩ := y
  exact turn i x r _ (y xs (s1.seq hx)) hr s1 Done Kept hd hk
theorem lcT {ρ : Type} {rows : List ρ} (hn : xs.length = rows.length) (hz : xs.length ≤ 100000) (hx : SqT K H a xs) (f : ρ → Bool) (v : ρ → V)
    (turn : ∀ (i : Nat) x r H1, xs[i]? = some x → rows[i]? = some r → Same H H1 → ∀ (Done : Hp → Prop) (Kept : VK), (∀ H3, Same H1 H3 → f r = false → Done H3) → (∀ H3, Same H1 H3 → f r = true → Kept (v r) H3) →
      g x (wipe σ vs) H1 fun σ2 H2 => wipe σ2 vs = wipe σ vs ∧ tt σ2 H2 fun b H3 => if b = true then te σ2 H3 Kept else Done H3)
    (q : ∀ D H', H D = none → Same H H' → H' D = some (.lst ((rows.filter f).map v)) → Q (.ref D) H') : LcK (Itt K a) g tt te vs σ H Q := by
  refine lcRows hn hz f v (fun H' s => ⟨xs, sqT_same s hx, Nat.le_refl _⟩) (fun i H' s hi => ⟨xs, xs[i], sqT_same s hx, by simp [hi]⟩) (fun i r H1 hr s1 x H2 y Done Kept hd hk => ?_) q
  obtain ⟨rfl, y⟩ := y
  exact turn i x r _ (y xs (sqT_same s1 hx)) hr s1 Done Kept hd hk
theorem lcR {n : Nat} (hz : n ≤ 100000) (f : Nat → Bool) (v : Nat → V)
    (turn : ∀ (i : Nat) H1, i < n → Same H H1 → ∀ (Done : Hp → Prop) (Kept : VK), (∀ H3, Same H1 H3 → f i = false → Done H3) → (∀ H3, Same H1 H3 → f i = true → Kept (v i) H3) →
      g (.int (i : Int)) (wipe σ vs) H1 fun σ2 H2 => wipe σ2 vs = wipe σ vs ∧ tt σ2 H2 fun b H3 => if b = true then te σ2 H3 Kept else Done H3)
    (q : ∀ D H', H D = none → Same H H' → H' D = some (.lst (((List.range n).filter f).map v)) → Q (.ref D) H') : LcK (Itr 0 n) g tt te vs σ H Q := by
  refine lcRows (rows := List.range n) (by simp) hz f v (fun H' s => Nat.le_refl _) (fun i H' s hi => hi) (fun i r H1 hr s1 x H2 y Done Kept hd hk => ?_) q
  obtain ⟨rfl, rfl⟩ := y
  have hi : i < n := by
    have := (List.getElem?_eq_some_iff.mp hr).1
    simpa using this
  have er : r = i := by
    rw [List.getElem?_range hi] at hr
    exact (Option.some.inj hr).symm
  subst er
  have e : (0 : Int) + (r : Int) = (r : Int) := Int.zero_add _
  rw [e]
  exact turn r _ hi s1 Done Kept hd hk
theorem rd_yes {P : Bool → Hp → Prop} (h : P true H) : tYes σ H P := h
end
section
variable {K : PySem.W.Frag} {H : Hp} {Q : VK}
theorem kit_int_int : PySem.W.kitOne K (.type "int") (.type "int") = some true := kit_ty (by decide +kernel)
theorem kit_int_bool : PySem.W.kitOne K (.type "int") (.type "bool") = some false := kit_ty (by decide +kernel)
theorem kit_int_str : PySem.W.kitOne K (.type "int") (.type "str") = some false := kit_ty (by decide +kernel)
theorem kit_int_list : PySem.W.kitOne K (.type "int") (.type "list") = some false := kit_ty (by decide +kernel)
theorem kit_int_tuple : PySem.W.kitOne K (.type "int") (.type "tuple") = some false := kit_ty (by decide +kernel)
theorem kit_bool_int : PySem.W.kitOne K (.type "bool") (.type "int") = some true := kit_ty (by decide +kernel)
theorem kit_bool_bool : PySem.W.kitOne K (.type "bool") (.type "bool") = some true := kit_ty (by decide +kernel)
theorem kit_bool_str : PySem.W.kitOne K (.type "bool") (.type "str") = some false := kit_ty (by decide +kernel)
theorem kit_bool_list : PySem.W.kitOne K (.type "bool") (.type "list") = some false := kit_ty (by decide +kernel)
theorem kit_bool_tuple : PySem.W.kitOne K (.type "bool") (.type "tuple") = some false := kit_ty (by decide +kernel)
theorem kit_str_int : PySem.W.kitOne K (.type "str") (.type "int") = some false := kit_ty (by decide +kernel)
theorem kit_str_bool : PySem.W.kitOne K (.type "str") (.type "bool") = some false := kit_ty (by decide +kernel)
theorem kit_str_str : PySem.W.kitOne K (.type "str") (.type "str") = some true := kit_ty (by decide +kernel)
theorem kit_str_list : PySem.W.kitOne K (.type "str") (.type "list") = some false := kit_ty (by decide +kernel)
theorem kit_str_tuple : PySem.W.kitOne K (.type "str") (.type "tuple") = some false := kit_ty (by decide +kernel)
theorem kit_list_int : PySem.W.kitOne K (.type "list") (.type "int") = some false := kit_ty (by decide +kernel)
theorem kit_list_bool : PySem.W.kitOne K (.type "list") (.type "bool") = some false := kit_ty (by decide +kernel)
theorem kit_list_str : PySem.W.kitOne K (.type "list") (.type "str") = some false := kit_ty (by decide +kernel)
theorem kit_list_list : PySem.W.kitOne K (.type "list") (.type "list") = some true := kit_ty (by decide +kernel)
theorem kit_list_tuple : PySem.W.kitOne K (.type "list") (.type "tuple") = some false := kit_ty (by decide +kernel)
theorem kit_tuple_int : PySem.W.kitOne K (.type "tuple") (.type "int") = some false := kit_ty (by decide +kernel)
theorem kit_tuple_bool : PySem.W.kitOne K (.type "tuple") (.type "bool") = some false := kit_ty (by decide +kernel)
theorem kit_tuple_str : PySem.W.kitOne K (.type "tuple") (.type "str") = some false := kit_ty (by decide +kernel)
theorem kit_tuple_list : PySem.W.kitOne K (.type "tuple") (.type "list") = some false := kit_ty (by decide +kernel)
theorem kit_tuple_tuple : PySem.W.kitOne K (.type "tuple") (.type "tuple") = some true := kit_ty (by decide +kernel)
theorem kit_NoneType_int : PySem.W.kitOne K (.type "NoneType") (.type "int") = some false := kit_ty (by decide +kernel)
theorem kit_NoneType_bool : PySem.W.kitOne K (.type "NoneType") (.type "bool") = some false := kit_ty (by decide +kernel)
theorem kit_NoneType_str : PySem.W.kitOne K (.type "NoneType") (.type "str") = some false := kit_ty (by decide +kernel)
theorem kit_NoneType_list : PySem.W.kitOne K (.type "NoneType") (.type "list") = some false := kit_ty (by decide +kernel)
theorem kit_NoneType_tuple : PySem.W.kitOne K (.type "NoneType") (.type "tuple") = some false := kit_ty (by decide +kernel)
theorem rd_isi_int_int {i : Int} (q : Q (.bl true) H) : rIsi K [(.int i), .ty "int"] H Q := rd_isi (.ty _) (.base (.int _)) kit_int_int q
theorem rd_isi_int_bool {i : Int} (q : Q (.bl false) H) : rIsi K [(.int i), .ty "bool"] H Q := rd_isi (.ty _) (.base (.int _)) kit_int_bool q
theorem rd_isi_int_str {i : Int} (q : Q (.bl false) H) : rIsi K [(.int i), .ty "str"] H Q := rd_isi (.ty _) (.base (.int _)) kit_int_str q
theorem rd_isi_int_list {i : Int} (q : Q (.bl false) H) : rIsi K [(.int i), .ty "list"] H Q := rd_isi (.ty _) (.base (.int _)) kit_int_list q
theorem rd_isi_int_tuple {i : Int} (q : Q (.bl false) H) : rIsi K [(.int i), .ty "tuple"] H Q := rd_isi (.ty _) (.base (.int _)) kit_int_tuple q
theorem rd_isi_bool_int {i : Bool} (q : Q (.bl true) H) : rIsi K [(.bl i), .ty "int"] H Q := rd_isi (.ty _) (.base (.bl _)) kit_bool_int q
theorem rd_isi_bool_bool {i : Bool} (q : Q (.bl true) H) : rIsi K [(.bl i), .ty "bool"] H Q := rd_isi (.ty _) (.base (.bl _)) kit_bool_bool q
theorem rd_isi_bool_str {i : Bool} (q : Q (.bl false) H) : rIsi K [(.bl i), .ty "str"] H Q := rd_isi (.ty _) (.base (.bl _)) kit_bool_str q
theorem rd_isi_bool_list {i : Bool} (q : Q (.bl false) H) : rIsi K [(.bl i), .ty "list"] H Q := rd_isi (.ty _) (.base (.bl _)) kit_bool_list q
theorem rd_isi_bool_tuple {i : Bool} (q : Q (.bl false) H) : rIsi K [(.bl i), .ty "tuple"] H Q := rd_isi (.ty _) (.base (.bl _)) kit_bool_tuple q
theorem rd_isi_str_int {i : Str} (q : Q (.bl false) H) : rIsi K [(.str i), .ty "int"] H Q := rd_isi (.ty _) (.base (.str _)) kit_str_int q
theorem rd_isi_str_bool {i : Str} (q : Q (.bl false) H) : rIsi K [(.str i), .ty "bool"] H Q := rd_isi (.ty _) (.base (.str _)) kit_str_bool q
theorem rd_isi_str_str {i : Str} (q : Q (.bl true) H) : rIsi K [(.str i), .ty "str"] H Q := rd_isi (.ty _) (.base (.str _)) kit_str_str q
theorem rd_isi_str_list {i : Str} (q : Q (.bl false) H) : rIsi K [(.str i), .ty "list"] H Q := rd_isi (.ty _) (.base (.str _)) kit_str_list q
theorem rd_isi_str_tuple {i : Str} (q : Q (.bl false) H) : rIsi K [(.str i), .ty "tuple"] H Q := rd_isi (.ty _) (.base (.str _)) kit_str_tuple q
theorem rd_isi_list_int {p : Addr} {xs : List V} (e : H p = some (.lst xs)) (q : Q (.bl false) H) : rIsi K [(.ref p), .ty "int"] H Q := rd_isi (.ty _) (.base (.lst e)) kit_list_int q
theorem rd_isi_list_bool {p : Addr} {xs : List V} (e : H p = some (.lst xs)) (q : Q (.bl false) H) : rIsi K [(.ref p), .ty "bool"] H Q := rd_isi (.ty _) (.base (.lst e)) kit_list_bool q
theorem rd_isi_list_str {p : Addr} {xs : List V} (e : H p = some (.lst xs)) (q : Q (.bl false) H) : rIsi K [(.ref p), .ty "str"] H Q := rd_isi (.ty _) (.base (.lst e)) kit_list_str q
theorem rd_isi_list_list {p : Addr} {xs : List V} (e : H p = some (.lst xs)) (q : Q (.bl true) H) : rIsi K [(.ref p), .ty "list"] H Q := rd_isi (.ty _) (.base (.lst e)) kit_list_list q
theorem rd_isi_list_tuple {p : Addr} {xs : List V} (e : H p = some (.lst xs)) (q : Q (.bl false) H) : rIsi K [(.ref p), .ty "tuple"] H Q := rd_isi (.ty _) (.base (.lst e)) kit_list_tuple q
theorem rd_isi_tuple_int {p : Addr} {xs : List V} (e : H p = some (.tup xs)) (q : Q (.bl false) H) : rIsi K [(.ref p), .ty "int"] H Q := rd_isi (.ty _) (.base (.tup e)) kit_tuple_int q
theorem rd_isi_tuple_bool {p : Addr} {xs : List V} (e : H p = some (.tup xs)) (q : Q (.bl false) H) : rIsi K [(.ref p), .ty "bool"] H Q := rd_isi (.ty _) (.base (.tup e)) kit_tuple_bool q
theorem rd_isi_tuple_str {p : Addr} {xs : List V} (e : H p = some (.tup xs)) (q : Q (.bl false) H) : rIsi K [(.ref p), .ty "str"] H Q := rd_isi (.ty _) (.base (.tup e)) kit_tuple_str q
theorem rd_isi_tuple_list {p : Addr} {xs : List V} (e : H p = some (.tup xs)) (q : Q (.bl false) H) : rIsi K [(.ref p), .ty "list"] H Q := rd_isi (.ty _) (.base (.tup e)) kit_tuple_list q
theorem rd_isi_tuple_tuple {p : Addr} {xs : List V} (e : H p = some (.tup xs)) (q : Q (.bl true) H) : rIsi K [(.ref p), .ty "tuple"] H Q := rd_isi (.ty _) (.base (.tup e)) kit_tuple_tuple q
theorem rd_isi_NoneType_int  (q : Q (.bl false) H) : rIsi K [.non, .ty "int"] H Q := rd_isi (.ty _) (.base .non) kit_NoneType_int q
theorem rd_isi_NoneType_bool  (q : Q (.bl false) H) : rIsi K [.non, .ty "bool"] H Q := rd_isi (.ty _) (.base .non) kit_NoneType_bool q
theorem rd_isi_NoneType_str  (q : Q (.bl false) H) : rIsi K [.non, .ty "str"] H Q := rd_isi (.ty _) (.base .non) kit_NoneType_str q
theorem rd_isi_NoneType_list  (q : Q (.bl false) H) : rIsi K [.non, .ty "list"] H Q := rd_isi (.ty _) (.base .non) kit_NoneType_list q
theorem rd_isi_NoneType_tuple  (q : Q (.bl false) H) : rIsi K [.non, .ty "tuple"] H Q := rd_isi (.ty _) (.base .non) kit_NoneType_tuple q
theorem rd_isi_own {C a dx : Addr} {fs : List (Str × V)} (T : TyC K C) (e : H a = some (.ins C dx fs)) (q : Q (.bl true) H) : rIsi K [.ref a, .ref C] H Q := rd_isi (.own _) (.base (T.at e)) kit_self q
end
/-! ### texts by their codes -/
def tx (l : List Nat) : Str := ⟨l.toArray⟩
theorem tx_list (l : List Nat) : (tx l).cps.toList = l := rfl
theorem tx_len (l : List Nat) : (tx l).length = l.length := by simp [tx, Str.length]
theorem tx_app (l m : List Nat) : tx l ++ tx m = tx (l ++ m) := PyProof.Rows.str_of_list (by rw [PyProof.Rows.cps_toList_append]; rfl)
theorem tx_of (z : Str) : z = tx z.cps.toList := PyProof.Rows.str_of_list rfl
theorem tx_inj {l m : List Nat} : tx l = tx m ↔ l = m := ⟨fun h => by have := congrArg (fun z => z.cps.toList) h; exact this, fun h => by rw [h]⟩
def smalls : List Nat := [97, 98, 99, 100, 101, 102, 103, 104, 105, 106, 107, 108, 109, 110, 111, 112, 113, 114, 115, 116, 117, 118, 119, 120, 121, 122]
def capitals : List Nat := [65, 66, 67, 68, 69, 70, 71, 72, 73, 74, 75, 76, 77, 78, 79, 80, 81, 82, 83, 84, 85, 86, 87, 88, 89, 90]
theorem smalls_eq : (Str.ofString "abcdefghijklmnopqrstuvwxyz") = tx smalls := by decide +kernel
theorem capitals_eq : (Str.ofString "ABCDEFGHIJKLMNOPQRSTUVWXYZ") = tx capitals := by decide +kernel
theorem atI_mem {α : Type} {xs : List α} {i : Int} (h0 : 0 ≤ i) (h1 : i < (xs.length : Int)) : ∃ z, atI xs i = some z ∧ z ∈ xs := by
  have e : i.toNat < xs.length := by omega
  refine ⟨xs[i.toNat], ?_, List.getElem_mem e⟩
  unfold atI ixN
  rw [if_pos h0, if_pos h1]
  simp [e]
theorem empty_tx : Str.empty = tx [] := rfl
theorem sg_tx (c : Nat) : (⟨#[c]⟩ : Str) = tx [c] := rfl
section
variable {σ : L2.St} {H : Hp} {te : TE} {ts : List TE} {QS : Str → Hp → Prop} {Q : VK}
def JsK (ts : List TE) (acc : Str) (σ : L2.St) (x : V) (H1 : Hp) (Q : Str → Hp → Prop) : Prop := ∃ y : Str, x = .str y ∧ (acc ++ y).length ≤ sizeLine ∧ tJs ts (acc ++ y) σ H1 Q
theorem rd_jsC {acc : Str} (h : te σ H fun x H1 => JsK ts acc σ x H1 QS) : tJs (te :: ts) acc σ H QS := h
theorem rd_jsN {acc : Str} (h : QS acc H) : tJs [] acc σ H QS := h
theorem rd_JsK {l m : List Nat} (h : l.length + m.length ≤ 100000) (k : tJs ts (tx (l ++ m)) σ H QS) : JsK ts (tx l) σ (.str (tx m)) H QS := by
  have e : (tx (l ++ m)).length = l.length + m.length := by rw [tx_len, List.length_append]
  exact ⟨tx m, rfl, by rw [tx_app, e]; exact sz_of h, by rw [tx_app]; exact k⟩
def FmtK (x : V) (H1 : Hp) (Q : VK) : Prop := (∃ y : Str, x = .str y ∧ y.length ≤ sizeLine ∧ Q (.str y) H1) ∨ ∃ i : Int, x = .int i ∧ i.natAbs.log2 < 1920 ∧ Q (.str (toString i)) H1
theorem rd_fmt (h : te σ H fun x H1 => FmtK x H1 Q) : tFmt te σ H Q := h
theorem rd_fmtS {y : Str} (h : y.length ≤ sizeLine) (k : Q (.str y) H) : FmtK (.str y) H Q := .inl ⟨y, rfl, h, k⟩
theorem rd_fmtT {l : List Nat} (h : l.length ≤ 100000) (k : Q (.str (tx l)) H) : FmtK (.str (tx l)) H Q := .inl ⟨_, rfl, by rw [tx_len]; exact sz_of h, k⟩
theorem rd_addT {l m : List Nat} (hz : l.length + m.length ≤ 100000) (q : Q (.str (tx (l ++ m))) H) : rAddStr (.str (tx l)) (.str (tx m)) H Q := by
  refine rd_addS (by rw [tx_len, tx_len]; exact sz_of hz) ?_
  rw [tx_app]
  exact q
theorem rd_lenTx {l : List Nat} (hz : l.length ≤ 100000) (q : Q (.int (l.length : Nat)) H) : rLenStr [.str (tx l)] H Q := by
  refine rd_lenS (by rw [tx_len]; exact sz_of hz) ?_
  rw [tx_len]
  exact q
theorem eq_tx {l m : List Nat} : decide (V.str (tx l) = V.str (tx m)) = decide (l = m) := by
  have e : (V.str (tx l) = V.str (tx m)) ↔ l = m := ⟨fun h => tx_inj.mp (by injection h), fun h => by rw [h]⟩
  simp only [e]
theorem rd_eqTx {l m : List Nat} (q : Q (.bl (decide (l = m))) H) : rEq (.str (tx l)) (.str (tx m)) H Q := rd_eq rfl (by rw [eq_tx]; exact q)
theorem rd_neTx {l m : List Nat} (q : Q (.bl (!decide (l = m))) H) : rNe (.str (tx l)) (.str (tx m)) H Q := rd_ne rfl (by rw [eq_tx]; exact q)
theorem rd_inTx {c : Nat} {l : List Nat} (q : Q (.bl (decide (c ∈ l))) H) : rInSign (.str (tx [c])) (.str (tx l)) H Q := rd_inSign q
theorem rd_notInTx {c : Nat} {l : List Nat} (q : Q (.bl (!decide (c ∈ l))) H) : rNotInSign (.str (tx [c])) (.str (tx l)) H Q := rd_notInSign q
theorem atI_at {α : Type} {xs : List α} {i : Nat} {c : α} (h : xs[i]? = some c) : atI xs (i : Int) = some c := by
  have e := (List.getElem?_eq_some_iff.mp h).1
  unfold atI ixN
  rw [if_pos (by omega), if_pos (by omega)]
  simpa using h
theorem rd_ixTx {l : List Nat} {i : Nat} {c : Nat} (hz : l.length ≤ 100000) (h : l[i]? = some c) (q : Q (.str (tx [c])) H) : rIxS (.str (tx l)) (.int (i : Nat)) H Q := rd_ixS (by rw [tx_len]; exact sz_of hz) (atI_at h) q
theorem sIx_nat {n d i : Nat} (h : i ≤ n) : HT.sIx n d (some (i : Int)) = i := by
  rw [HT.sIx_nat]
  omega
theorem cutS_tx {l : List Nat} {i j : Nat} (hi : i ≤ l.length) (hj : j ≤ l.length) : cutS (tx l) (some (i : Int)) (some (j : Int)) = tx ((l.drop i).take (j - i)) := by
  unfold cutS
  rw [tx_len, sIx_nat hi, sIx_nat hj] <;> rfl
theorem rd_cutTx {l : List Nat} {i j : Nat} (hz : l.length ≤ 100000) (hi : i ≤ l.length) (hj : j ≤ l.length) (q : Q (.str (tx ((l.drop i).take (j - i)))) H) : rSlS (.str (tx l)) (some (i : Int)) (some (j : Int)) H Q := by
  refine rd_slS (by rw [tx_len]; exact sz_of hz) ?_
  rw [cutS_tx hi hj]
  exact q
end
section
variable {X : Cx} {K : PySem.W.Frag}
theorem ix_listK (h : X.K = K := by rfl) : IxR X (rIxL K) := h ▸ ix_list
theorem ix_tupK (h : X.K = K := by rfl) : IxR X (rIxT K) := h ▸ ix_tup
theorem op_inSeqK (h : X.K = K := by rfl) : OpR X (compareOp .In) (rIn K false) := h ▸ op_in_seq
theorem op_notInSeqK (h : X.K = K := by rfl) : OpR X (compareOp .NotIn) (rIn K true) := h ▸ op_notIn_seq
theorem op_eqDK (hu : X.A.units + 64 < cLine) (h : X.K = K := by rfl) : OpR X (compareOp .Eq) (rEqD K) := h ▸ op_eqD hu
theorem op_neDK (hu : X.A.units + 64 < cLine) (h : X.K = K := by rfl) : OpR X (compareOp .NotEq) (rNeD K) := h ▸ op_neD hu
theorem call_lenSeqK (h : X.K = K := by rfl) : CallR X (.builtin "len") (rLenSeq K) := h ▸ call_lenSeq
theorem call_listOfK (h : X.K = K := by rfl) : CallR X (.type "list") (rListOf K) := h ▸ call_listOf
theorem call_isi_K (h : X.K = K := by rfl) : CallR X (.builtin "isinstance") (rIsi K) := h ▸ call_isi
theorem pe_fldK {e : Expr} {f : Str} {pos : Pos} {ta : TE} (he : PE X e ta) (hb : attributeBase e f X.env (eval e X.env) = eval e X.env) (h : X.K = K := by rfl) : PE X (.Attribute e f pos) (tFld K ta f) := h ▸ pe_fld he hb
theorem pe_cvalK {e : Expr} {f : Str} {pos : Pos} {ta : TE} (he : PE X e ta) (hb : attributeBase e f X.env (eval e X.env) = eval e X.env := by rfl) (h : X.K = K := by rfl) : PE X (.Attribute e f pos) (ClX.tCVal K ta f) := h ▸ ClX.pe_cval he hb
end
/-! ### lists of texts -/
def wd (l : List Nat) : V := .str (tx l)
def wdD (l : List Nat) : PyData := .str (tx l)
def okT (l : List Nat) : Prop := ∀ c ∈ l, c < 128
theorem okT_str {l : List Nat} (h : okT l) : PyData.strOk (tx l) = true := by
  unfold PyData.strOk tx
  rw [Array.all_eq_true']
  intro x hx
  have := h x (by simpa using hx)
  simp
  omega
theorem wd_flat (ws : List (List Nat)) : (ws.map wd).all flatV = true := by
  rw [List.all_map, List.all_eq_true]
  intro x _
  rfl
theorem inV_wd (l : List Nat) (ws : List (List Nat)) : inV (.str (tx l)) (ws.map wd) = decide (l ∈ ws) := by
  unfold inV
  rw [List.any_map]
  induction ws with
  | nil => simp
  | cons m ws ih =>
    rw [List.any_cons, ih]
    show ((tx m == tx l) || decide (l ∈ ws)) = _
    by_cases h : m = l
    · subst h
      simp
    · have h1 : ¬ tx m = tx l := fun z => h (tx_inj.mp z)
      have h2 : ¬ l = m := fun z => h z.symm
      simp [h1, h2]
section
variable {K : PySem.W.Frag} {H : Hp} {Q : VK} {p : Addr} {l : List Nat} {ws vs : List (List Nat)}
theorem rd_inWL (h : SqL K H p (ws.map wd)) (q : Q (.bl (decide (l ∈ ws))) H) : rIn K false (.str (tx l)) (.ref p) H Q := rd_inSeqL h rfl (wd_flat ws) (by rw [inV_wd]; exact q)
theorem rd_inWT (h : SqT K H p (ws.map wd)) (q : Q (.bl (decide (l ∈ ws))) H) : rIn K false (.str (tx l)) (.ref p) H Q := rd_inSeqT h rfl (wd_flat ws) (by rw [inV_wd]; exact q)
theorem rd_notInWL (h : SqL K H p (ws.map wd)) (q : Q (.bl (!decide (l ∈ ws))) H) : rIn K true (.str (tx l)) (.ref p) H Q := rd_inSeqL h rfl (wd_flat ws) (by rw [inV_wd]; exact q)
theorem rd_notInWT (h : SqT K H p (ws.map wd)) (q : Q (.bl (!decide (l ∈ ws))) H) : rIn K true (.str (tx l)) (.ref p) H Q := rd_inSeqT h rfl (wd_flat ws) (by rw [inV_wd]; exact q)
theorem joinL_len (sep : List Nat) : ∀ ws : List (List Nat), (TL.joinL sep ws).length ≤ (ws.map (·.length)).sum + ws.length * sep.length
  | [] => by simp [TL.joinL]
  | [x] => by simp [TL.joinL]
  | x :: y :: ws => by
    have h := joinL_len sep (y :: ws)
    have e : TL.joinL sep (x :: y :: ws) = x ++ (sep ++ TL.joinL sep (y :: ws)) := by simp [TL.joinL]
    rw [e, List.length_append, List.length_append, List.map_cons, List.sum_cons, List.length_cons, Nat.succ_mul]
    omega
theorem wd_strs (ws : List (List Nat)) : ws.map wd = (ws.map tx).map V.str := by rw [List.map_map]; rfl
/-- what sep.join(..) asks -/
def JoinK (K : PySem.W.Frag) (x : V) (xs : List V) (H : Hp) (Q : VK) : Prop := ∃ a p, ∃ ys : List Str, x = .str a ∧ xs = [.ref p] ∧ (SqL K H p (ys.map V.str) ∨ SqT K H p (ys.map V.str)) ∧ (ys.map (·.length)).sum + ys.length * a.length ≤ 16777216 ∧ Q (.str (Txt.join a ys)) H
theorem rd_joinW {sep : List Nat} (h : SqL K H p (ws.map wd) ∨ SqT K H p (ws.map wd)) (hb : (ws.map (·.length)).sum + ws.length * sep.length ≤ 100000) (q : Q (.str (tx (TL.joinL sep ws))) H) : JoinK K (.str (tx sep)) [.ref p] H Q := by
  refine ⟨tx sep, p, ws.map tx, rfl, rfl, by rw [← wd_strs]; exact h, ?_, ?_⟩
  · have e : (ws.map tx).map (·.length) = ws.map (·.length) := SX.lens ws
    rw [e, List.length_map, tx_len]
    omega
  · have e : Txt.join (tx sep) (ws.map tx) = tx (TL.joinL sep ws) := SX.join_S sep ws
    rw [e]
    exact q
theorem wd_dp : ∀ ws : List (List Nat), DpAll K H (ws.map wd) (ws.map wdD)
  | [] => .nil
  | _ :: ws => .cons (.str _) (wd_dp ws)
theorem wdD_lay : ∀ ws : List (List Nat), (∀ w ∈ ws, okT w) → PyData.canLayAll0 (ws.map wdD) = true
  | [], _ => by simp [PyData.canLayAll0]
  | z :: zs, h => by simp [PyData.canLayAll0, wdD, PyData.canLay0, okT_str (h z (by simp)), wdD_lay zs fun p hp => h p (by simp [hp])]
theorem wdD_depth : ∀ ws : List (List Nat), PyData.depthAll (ws.map wdD) = 0
  | [] => by simp [PyData.depthAll]
  | z :: zs => by simp [PyData.depthAll, wdD, PyData.depth, wdD_depth zs]
theorem wdL_shaped (h : ∀ w ∈ ws, okT w) : SeqAt.shaped (.list (ws.map wdD)) = true := by
  show (PyData.canLay0 (.list (ws.map wdD)) && decide (PyData.depth (.list (ws.map wdD)) ≤ 64)) = true
  rw [Bool.and_eq_true]
  exact ⟨by simp only [PyData.canLay0]; exact wdD_lay ws h, decide_eq_true (by simp only [PyData.depth, wdD_depth]; omega)⟩
theorem wdT_shaped (h : ∀ w ∈ ws, okT w) : SeqAt.shaped (.tuple (ws.map wdD)) = true := by
  show (PyData.canLay0 (.tuple (ws.map wdD)) && decide (PyData.depth (.tuple (ws.map wdD)) ≤ 64)) = true
  rw [Bool.and_eq_true]
  exact ⟨by simp only [PyData.canLay0]; exact wdD_lay ws h, decide_eq_true (by simp only [PyData.depth, wdD_depth]; omega)⟩
theorem wdD_eqv : ∀ ws vs : List (List Nat), PyData.eqvAll (ws.map wdD) (vs.map wdD) = decide (ws = vs)
  | [], [] => by simp [PyData.eqvAll]
  | [], _ :: _ => by simp [PyData.eqvAll]
  | _ :: _, [] => by simp [PyData.eqvAll]
  | w :: ws, v :: vs => by
    have e : PyData.eqvAll ((w :: ws).map wdD) ((v :: vs).map wdD) = ((tx w == tx v) && PyData.eqvAll (ws.map wdD) (vs.map wdD)) := by simp only [List.map_cons, wdD, PyData.eqvAll, PyData.eqv]
    rw [e, wdD_eqv ws vs]
    by_cases h : w = v
    · subst h
      simp
    · have h1 : ¬ tx w = tx v := fun z => h (tx_inj.mp z)
      simp [h, h1]
theorem rd_eqWL {r : Addr} (h : SqL K H p (ws.map wd)) (h2 : SqL K H r (vs.map wd)) (o1 : ∀ w ∈ ws, okT w) (o2 : ∀ w ∈ vs, okT w) (q : Q (.bl (decide (ws = vs))) H) : rEqD K (.ref p) (.ref r) H Q :=
  rd_eqD (.lst h (wd_dp ws)) (.lst h2 (wd_dp vs)) (wdL_shaped o1) (wdL_shaped o2) (by rw [show PyData.eqv (.list (ws.map wdD)) (.list (vs.map wdD)) = PyData.eqvAll (ws.map wdD) (vs.map wdD) by simp only [PyData.eqv], wdD_eqv]; exact q)
theorem rd_neWL {r : Addr} (h : SqL K H p (ws.map wd)) (h2 : SqL K H r (vs.map wd)) (o1 : ∀ w ∈ ws, okT w) (o2 : ∀ w ∈ vs, okT w) (q : Q (.bl (!decide (ws = vs))) H) : rNeD K (.ref p) (.ref r) H Q :=
  rd_neD (.lst h (wd_dp ws)) (.lst h2 (wd_dp vs)) (wdL_shaped o1) (wdL_shaped o2) (by rw [show PyData.eqv (.list (ws.map wdD)) (.list (vs.map wdD)) = PyData.eqvAll (ws.map wdD) (vs.map wdD) by simp only [PyData.eqv], wdD_eqv]; exact q)
theorem rd_eqWT {r : Addr} (h : SqT K H p (ws.map wd)) (h2 : SqT K H r (vs.map wd)) (o1 : ∀ w ∈ ws, okT w) (o2 : ∀ w ∈ vs, okT w) (q : Q (.bl (decide (ws = vs))) H) : rEqD K (.ref p) (.ref r) H Q :=
  rd_eqD (.tup h (wd_dp ws)) (.tup h2 (wd_dp vs)) (wdT_shaped o1) (wdT_shaped o2) (by rw [show PyData.eqv (.tuple (ws.map wdD)) (.tuple (vs.map wdD)) = PyData.eqvAll (ws.map wdD) (vs.map wdD) by simp only [PyData.eqv], wdD_eqv]; exact q)
end
section
variable {X : Cx} {o e : Expr} {to te : TE} {K : PySem.W.Frag}
theorem pe_joinR {apos pos : Pos} (ho : PE X o to) (he : PE X e te) (h : X.K = K := by rfl) (hs : starEach [e] X.env = [(false, eval e X.env)] := by rfl) (hbase : attributeBase o "join" X.env (eval o X.env) = eval o X.env := by rfl) (hline : (apos.endLine == pos.line) = true := by rfl) :
    PE X (.Call (.Attribute o "join" apos) [e] [] pos) (tM1 (JoinK K) to te) := h ▸ pe_join ho he hs hbase hline
def SplitK (x : V) (xs : List V) (H : Hp) (Q : VK) : Prop := ∃ a b, x = .str a ∧ xs = [.str b] ∧ (b.length == 0) = false ∧ a.length + 2 ≤ sizeLine ∧ rNewStrs (Txt.split a b) H Q
theorem pe_splitR {apos pos : Pos} (ho : PE X o to) (he : PE X e te) (hs : starEach [e] X.env = [(false, eval e X.env)] := by rfl) (hbase : attributeBase o "split" X.env (eval o X.env) = eval o X.env := by rfl) (hline : (apos.endLine == pos.line) = true := by rfl) :
    PE X (.Call (.Attribute o "split" apos) [e] [] pos) (tM1 SplitK to te) := pe_split ho he hs hbase hline
end
theorem units65 {k : Nat} {A : Around} (r : Room k A) : A.units + 65 < cLine := by have := r.un; omega
end Hk

/-! The frozen part F of the heap H: data that is never written again; what a call leaves: Grow. -/
namespace Hk
open PySem PySem.Spec PyProof.Rows L2

/-- behind a call: the frozen part and the heap have grown; what was tracked and not frozen (the callers' own) is kept, but for S -/
structure Grow (S : List Addr) (F H F' H' : Hp) : Prop where
  ff : Same F F'
  fh : Same F' H'
  hh : ∀ c o, c ∉ S → H c = some o → H' c = some o
  own : ∀ c, F c = none → H c ≠ none → F' c = none ∧ H' c ≠ none
section
variable {S : List Addr} {F H F1 H1 F2 H2 : Hp} {p : Addr} {o : HO}
theorem some_ne {α : Type} {x : Option α} {y : α} (h : x = some y) : x ≠ none := by rw [h]; intro z; cases z
theorem same_nn (e : Same H H1) (h : H p ≠ none) : H1 p ≠ none := by
  cases q : H p with
  | none => exact absurd q h
  | some o => rw [e _ _ q]; intro z; cases z
theorem upd_nn {q : Addr} (h : H p ≠ none) : upd H q o p ≠ none := by
  by_cases e : p = q
  · rw [e, upd_same]; intro z; cases z
  · rw [upd_ne e]; exact h
theorem Grow.refl (h : Same F H) : Grow S F H F H := ⟨Same.refl _, h, fun _ _ _ e => e, fun _ a b => ⟨a, b⟩⟩
theorem Grow.trans (a : Grow S F H F1 H1) (b : Grow S F1 H1 F2 H2) : Grow S F H F2 H2 :=
  ⟨a.ff.trans b.ff, b.fh, fun c o n e => b.hh c o n (a.hh c o n e), fun c x y => let z := a.own c x y; b.own c z.1 z.2⟩
theorem Grow.weak (a : Grow [] F H F1 H1) : Grow S F H F1 H1 := ⟨a.ff, a.fh, fun c o _ e => a.hh c o (by simp) e, a.own⟩
theorem Grow.step {S' : List Addr} (a : Grow S F H F1 H1) (b : Grow [] F1 H1 F2 H2) : Grow S F H F2 H2 := a.trans b.weak
theorem Grow.same (a : Grow [] F H F1 H1) : Same H H1 := fun c o e => a.hh c o (by simp) e
/-- a new thing, frozen -/
theorem Grow.new (a : Grow S F H F1 H1) (n : H1 p = none) : Grow S F H (upd F1 p o) (upd H1 p o) := by
  refine ⟨a.ff.trans (same_new (a.fh.free n)), fun c u e => ?_, fun c u h e => upd_new n (a.hh c u h e), fun c x y => ?_⟩
  · by_cases q : c = p
    · subst q; rw [upd_same] at e ⊢; exact e
    · rw [upd_ne q] at e ⊢; exact a.fh _ _ e
  · have z := a.own c x y
    have q : c ≠ p := fun q => z.2 (q ▸ n)
    exact ⟨upd_oldN q z.1, upd_nn z.2⟩
/-- a new thing that will be written -/
theorem Grow.newO (a : Grow S F H F1 H1) (n : H1 p = none) : Grow S F H F1 (upd H1 p o) :=
  ⟨a.ff, a.fh.trans (same_new n), fun c u h e => upd_new n (a.hh c u h e), fun c x y => let z := a.own c x y; ⟨z.1, upd_nn z.2⟩⟩
/-- a store to one's own -/
theorem Grow.mut (a : Grow S F H F1 H1) (f : F1 p = none) (n : p ∈ S ∨ H p = none) : Grow S F H F1 (upd H1 p o) := by
  refine ⟨a.ff, same_mut a.fh f, fun c u h e => ?_, fun c x y => let z := a.own c x y; ⟨z.1, upd_nn z.2⟩⟩
  have q : c ≠ p := by
    rcases n with n | n
    · exact fun q => h (q ▸ n)
    · exact ne_of_none e n
  exact upd_old q (a.hh c u h e)
/-- one's own thing is frozen -/
theorem Grow.frz (a : Grow S F H F1 H1) (h : H1 p = some o) (f : F1 p = none) (n : H p = none) : Grow S F H (upd F1 p o) H1 := by
  refine ⟨a.ff.trans (same_new f), fun c u e => ?_, a.hh, fun c x y => ?_⟩
  · by_cases q : c = p
    · subst q; rw [upd_same] at e; rw [← e]; exact h
    · rw [upd_ne q] at e; exact a.fh _ _ e
  · have z := a.own c x y
    exact ⟨upd_oldN (fun q => y (q ▸ n)) z.1, z.2⟩
theorem Grow.free (a : Grow S F H F1 H1) (h : H1 p = none) : H p = none := by
  cases e : H p with
  | none => rfl
  | some u =>
    cases q : F p with
    | some v =>
      have := a.fh _ _ (a.ff _ _ q)
      rw [h] at this; cases this
    | none => exact absurd h (a.own p q (some_ne e)).2
/-- one's own thing: at p stands o, not frozen -/
structure Hold (F H : Hp) (p : Addr) (o : HO) : Prop where
  f : F p = none
  h : H p = some o
theorem Hold.go (h : Hold F H p o) (a : Grow S F H F1 H1) (n : p ∉ S) : Hold F1 H1 p o := ⟨(a.own p h.f (some_ne h.h)).1, a.hh p o n h.h⟩
theorem Hold.go0 (h : Hold F H p o) (a : Grow [] F H F1 H1) : Hold F1 H1 p o := h.go a (by simp)
theorem Hold.new (fh : Same F H) (n : H p = none) : Hold F (upd H p o) p o := ⟨fh.free n, upd_same⟩
theorem Hold.put {u : HO} (h : Hold F H p o) : Hold F (upd H p u) p u := ⟨h.f, upd_same⟩
theorem Hold.other {q : Addr} {u : HO} (h : Hold F H p o) (n : p ≠ q) : Hold F (upd H q u) p o := ⟨h.f, upd_old n h.h⟩
theorem Hold.newF {q : Addr} {u : HO} (h : Hold F H p o) (n : H q = none) : Hold (upd F q u) (upd H q u) p o := ⟨upd_oldN (ne_new n h.h) h.f, upd_new n h.h⟩
theorem Hold.ne {q : Addr} {u : HO} (h : Hold F H p o) (e : F q = some u) : p ≠ q := fun z => by rw [← z, h.f] at e; cases e
end

/-! ### data -/
section
variable {K : PySem.W.Frag} {H H1 : Hp}
mutual
theorem dp_mono (e : Same H H1) : ∀ (d : PyData) (v : V), Dp K H v d → Dp K H1 v d
  | .none, _, h => by cases h; exact .non
  | .bool b, _, h => by cases h; exact .bl b
  | .int i, _, h => by cases h; exact .int i
  | .str x, _, h => by cases h; exact .str x
  | .list ds, _, h => by
    cases h with
    | lst hs ha => exact .lst (e.seq hs) (dpAll_mono e ds _ ha)
  | .tuple ds, _, h => by
    cases h with
    | tup hs ha => exact .tup (sqT_same e hs) (dpAll_mono e ds _ ha)
  | .dict _, _, h => by cases h
theorem dpAll_mono (e : Same H H1) : ∀ (ds : List PyData) (vs : List V), DpAll K H vs ds → DpAll K H1 vs ds
  | [], _, h => by cases h; exact .nil
  | d :: ds, _, h => by
    cases h with
    | cons hd ha => exact .cons (dp_mono e d _ hd) (dpAll_mono e ds _ ha)
end
theorem _root_.L2.Dp.mono {d : PyData} {v : V} (h : Dp K H v d) (e : Same H H1) : Dp K H1 v d := dp_mono e d v h
theorem _root_.L2.DpAll.mono {ds : List PyData} {vs : List V} (h : DpAll K H vs ds) (e : Same H H1) : DpAll K H1 vs ds := dpAll_mono e ds vs h
theorem _root_.L2.DpAll.length {vs : List V} {ds : List PyData} (h : DpAll K H vs ds) : vs.length = ds.length := by
  induction vs generalizing ds with
  | nil => cases h; rfl
  | cons v vs ih =>
    cases h with
    | cons _ ha => simp [ih ha]
theorem _root_.L2.DpAll.get {vs : List V} {ds : List PyData} (h : DpAll K H vs ds) {i : Nat} {v : V} (e : vs[i]? = some v) : ∃ d, ds[i]? = some d ∧ Dp K H v d := by
  induction vs generalizing ds i with
  | nil => simp at e
  | cons v' vs ih =>
    cases h with
    | cons hd ha =>
      cases i with
      | zero => simp at e; subst e; exact ⟨_, rfl, hd⟩
      | succ i => simpa using ih ha (by simpa using e)
theorem _root_.L2.DpAll.app {vs ws : List V} {ds es : List PyData} (h : DpAll K H vs ds) (h2 : DpAll K H ws es) : DpAll K H (vs ++ ws) (ds ++ es) := by
  induction vs generalizing ds with
  | nil => cases h; exact h2
  | cons v vs ih =>
    cases h with
    | cons hd ha => exact .cons hd (ih ha)
theorem _root_.L2.DpAll.one {v : V} {d : PyData} (h : Dp K H v d) : DpAll K H [v] [d] := .cons h .nil
theorem _root_.L2.DpAll.snoc {vs : List V} {ds : List PyData} {v : V} {d : PyData} (h : DpAll K H vs ds) (h2 : Dp K H v d) : DpAll K H (vs ++ [v]) (ds ++ [d]) := h.app (.one h2)
theorem _root_.L2.Dp.list_inv {v : V} {ds : List PyData} (h : Dp K H v (.list ds)) : ∃ a xs, v = .ref a ∧ SqL K H a xs ∧ DpAll K H xs ds := by
  cases h with
  | lst hs ha => exact ⟨_, _, rfl, hs, ha⟩
theorem _root_.L2.Dp.tup_inv {v : V} {ds : List PyData} (h : Dp K H v (.tuple ds)) : ∃ a xs, v = .ref a ∧ SqT K H a xs ∧ DpAll K H xs ds := by
  cases h with
  | tup hs ha => exact ⟨_, _, rfl, hs, ha⟩
theorem _root_.L2.Dp.str_inv {v : V} {x : Str} (h : Dp K H v (.str x)) : v = .str x := by cases h; rfl
theorem _root_.L2.Dp.int_inv {v : V} {x : Int} (h : Dp K H v (.int x)) : v = .int x := by cases h; rfl
/-- texts, ints, bools, none: the value itself -/
def flD : PyData → Option V
  | .none => some .non
  | .bool b => some (.bl b)
  | .int i => some (.int i)
  | .str x => some (.str x)
  | _ => none
def flAll : List PyData → Option (List V)
  | [] => some []
  | d :: ds => match flD d, flAll ds with
    | some v, some vs => some (v :: vs)
    | _, _ => none
theorem flD_inv {d : PyData} {v w : V} (e : flD d = some w) (h : Dp K H v d) : v = w := by
  cases h <;> simp [flD] at e <;> exact e
theorem flD_mk {d : PyData} {w : V} (e : flD d = some w) : Dp K H w d := by
  cases d <;> simp [flD] at e <;> subst e
  · exact .non
  · exact .bl _
  · exact .int _
  · exact .str _
theorem flAll_inv : ∀ {ds : List PyData} {vs ws : List V}, flAll ds = some ws → DpAll K H vs ds → vs = ws
  | [], _, _, e, h => by cases h; simp [flAll] at e; exact e.symm ▸ rfl
  | d :: ds, _, _, e, h => by
    cases h with
    | cons hd ha =>
      unfold flAll at e
      split at e
      · rename_i v vs e1 e2
        cases e
        rw [flD_inv e1 hd, flAll_inv e2 ha]
      · cases e
theorem flAll_mk : ∀ {ds : List PyData} {ws : List V}, flAll ds = some ws → DpAll K H ws ds
  | [], _, e => by simp [flAll] at e; subst e; exact .nil
  | d :: ds, _, e => by
    unfold flAll at e
    split at e
    · rename_i v vs e1 e2
      cases e
      exact .cons (flD_mk e1) (flAll_mk e2)
    · cases e
/-- a tuple of scalars: its items -/
theorem _root_.L2.Dp.tup_flat {v : V} {ds : List PyData} {ws : List V} (h : Dp K H v (.tuple ds)) (e : flAll ds = some ws := by rfl) : ∃ a, v = .ref a ∧ SqT K H a ws := by
  obtain ⟨a, xs, rfl, hs, ha⟩ := h.tup_inv
  rw [flAll_inv e ha] at hs
  exact ⟨a, rfl, hs⟩
mutual
theorem eqv_self : ∀ d : PyData, PyData.canLay0 d = true → PyData.eqv d d = true
  | .none, _ => by simp [PyData.eqv]
  | .bool _, _ => by simp [PyData.eqv]
  | .int _, _ => by simp [PyData.eqv]
  | .str _, _ => by simp [PyData.eqv]
  | .list xs, h => by simp only [PyData.eqv]; exact eqvAll_self xs (by simpa [PyData.canLay0] using h)
  | .tuple xs, h => by simp only [PyData.eqv]; exact eqvAll_self xs (by simpa [PyData.canLay0] using h)
  | .dict _, h => by simp [PyData.canLay0] at h
theorem eqvAll_self : ∀ ds : List PyData, PyData.canLayAll0 ds = true → PyData.eqvAll ds ds = true
  | [], _ => by simp [PyData.eqvAll]
  | d :: ds, h => by
    have h' : d.canLay0 = true ∧ PyData.canLayAll0 ds = true := by simpa [PyData.canLayAll0] using h
    simp [PyData.eqvAll, eqv_self d h'.1, eqvAll_self ds h'.2]
end
/-- no bools, no dicts: == is equality -/
def noB : PyData → Bool
  | .none | .int _ | .str _ => true
  | .list xs | .tuple xs => noBAll xs
  | .bool _ | .dict _ => false
where noBAll : List PyData → Bool
  | [] => true
  | x :: xs => noB x && noBAll xs
mutual
theorem eqv_eq : ∀ d e : PyData, noB d = true → noB e = true → PyData.eqv d e = true → d = e
  | .none, e, _, _, h => by cases e <;> simp [PyData.eqv] at h ⊢
  | .int _, e, _, he, h => by cases e <;> simp [PyData.eqv, noB] at h he ⊢; exact h
  | .str _, e, _, _, h => by cases e <;> simp [PyData.eqv] at h ⊢; exact h
  | .list xs, e, hd, he, h => by
    cases e <;> simp [PyData.eqv] at h ⊢
    exact eqvAll_eq xs _ (by simpa [noB] using hd) (by simpa [noB] using he) h
  | .tuple xs, e, hd, he, h => by
    cases e <;> simp [PyData.eqv] at h ⊢
    exact eqvAll_eq xs _ (by simpa [noB] using hd) (by simpa [noB] using he) h
  | .bool _, _, hd, _, _ => by simp [noB] at hd
  | .dict _, _, hd, _, _ => by simp [noB] at hd
theorem eqvAll_eq : ∀ ds es : List PyData, noB.noBAll ds = true → noB.noBAll es = true → PyData.eqvAll ds es = true → ds = es
  | [], es, _, _, h => by cases es <;> simp [PyData.eqvAll] at h ⊢
  | d :: ds, es, hd, he, h => by
    cases es with
    | nil => simp [PyData.eqvAll] at h
    | cons e es =>
      simp [PyData.eqvAll] at h
      simp [noB.noBAll] at hd he
      rw [eqv_eq d e hd.1 he.1 h.1, eqvAll_eq ds es hd.2 he.2 h.2]
end
end
end Hk

/-! Own errors with one field: making, raising; a callee that may raise, called where it does not. -/
namespace Hk
open PySem PySem.Spec PyProof.Rows L2
theorem passN {X : Cx} : Passes (CX X.prog X.w) X E0 := fun _ _ _ _ _ _ _ h => by
  obtain ⟨_, _, _, _, _, _, _, _, _, _, _, _, hE⟩ := h
  exact hE.elim
/-- __init__(self, x): self.f = x -/
def sp_err1 (C : Addr) (f : Str) : Sp := fun vs H Q _ => ∃ (a : Addr) (v : V), vs = [.ref a, v] ∧ H a = some (exo a C none) ∧ ∀ dx, H dx = none → dx ≠ a → Q .non (upd (upd H dx (exd dx [(f, v)])) a (exo a C (some dx)))
section
variable {K : PySem.W.Frag} {σ : L2.St} {H : Hp} {D : Ends} {to te : TE} {f : Str} {C : Addr} {sp : Sp} {W : WX} {ta : TA} {v : V}
theorem rd_ost (h : te σ H fun y H1 => to σ H1 fun x H2 => ∃ a C : Addr, x = .ref a ∧ OexC K C ∧ PySem.W.findIn K (.ref C) f = some none ∧
  ((H2 a = some (exo a C none) ∧ ∀ dx, H2 dx = none → dx ≠ a → D.nx σ (upd (upd H2 dx (exd dx [(f, y)])) a (exo a C (some dx)))) ∨
    ∃ (dx : Addr) (fs : List (Str × V)), H2 a = some (exo a C (some dx)) ∧ H2 dx = some (exd dx fs) ∧ fs.length ≤ 900 ∧ D.nx σ (upd H2 dx (exd dx ((f, y) :: fs))))) : tOst K f to te D σ H := h
def tRaiseO (C : Addr) (sp : Sp) (W : WX) (ta : TA) : TS := fun _ σ H => tMkO C sp [] ta σ H fun cls d H' => W cls d σ H'
def RaiseK (C : Addr) (sp : Sp) (vs : List V) (H1 : Hp) (W : XK) : Prop := vs.length ≤ 1000 ∧ ∀ a, H1 a = none → sp (.ref a :: (vs ++ [])) (upd H1 a (exo a C none))
  (fun v H2 => v = .non ∧ ∃ (d : Addr) (fs : List (Str × V)), H2 a = some (exo a C (some d)) ∧ H2 d = some (exd d fs) ∧ H1 d = none ∧ W (.ref C) (some d) (upd (del H2 a) d (.xd fs))) (fun _ _ _ => False)
theorem rd_raiseO (h : ta σ H fun vs H1 => RaiseK C sp vs H1 fun cls d H' => W cls d σ H') : tRaiseO C sp W ta D σ H := h
theorem rd_err1 {W : XK} (h : ∀ d H', H d = none → Same H H' → H' d = some (.xd [(f, v)]) → W (.ref C) (some d) H') : RaiseK C (sp_err1 C f) [v] H W := by
  refine ⟨by simp, fun a ha => ⟨a, v, rfl, upd_same, fun dx hdx hne => ⟨rfl, dx, [(f, v)], upd_same, ?_, ?_, ?_⟩⟩⟩
  · rw [upd_ne hne]
    exact upd_same
  · rw [upd_ne hne] at hdx
    exact hdx
  · rw [upd_ne hne] at hdx
    refine h dx _ hdx (fun c o e => ?_) upd_same
    have c1 : c ≠ a := ne_of_none e ha
    have c2 : c ≠ dx := ne_of_none e hdx
    rw [upd_ne c2, del_ne c1, upd_ne c1, upd_ne c2, upd_ne c1]
    exact e
end
section
variable {X : Cx} {e : Expr} {es : List Expr} {ta : TA} {p pos : Pos}
theorem ps_raiseO {CX : CXT} {x : Str} {C fI : Addr} {k : Nat} {fd : FuncData} {ps : List Str} {sp : Sp} {W : WX} {pos2 : Pos} (hc : X.calm = true) (tk : Takes X W) (T : OexC X.K C) (iC : PySem.W.findIn X.K (.ref C) "__init__" = some (some (.ref fI))) (tI : PySem.W.typeIn X.K (.ref fI) = some (.type "function"))
    (F1 : FnOk X.prog X.w X.K X.mg X.base CX k fI fd ps sp) (hr : Room (k + 1) X.A) (hb : Binds X.K fd ps []) (hx : Passes CX X E0) (hg : Gl X x) (hm : X.mg x = some (.ref C)) (ha : PA X (e :: es) ta)
    (hdb : (x == ("__debug__" : Str)) = false := by decide) (he : starEach (e :: es) X.env = (false, eval e X.env) :: starEach es X.env := by rfl) (hpl : (backTo pos (starEach es X.env)).any (·.1) = false := by rfl) :
    PS X (.Raise (some (.Call (.Name x p) (e :: es) [] pos)) none pos2) (tRaiseO C sp W ta) := ps_raise hc tk (pmk_oex T iC tI F1 hr hb .nil hx hg hm ha hdb he hpl)
end
end Hk

/-! Steps in a heap with a frozen part: new things, the bag, comprehensions. -/
namespace Hk
open PySem PySem.Spec PyProof.Rows L2
/-- a display: a new tuple, a new list -/
def TupK (xs : List V) (H : Hp) (Q : VK) : Prop := xs.length ≤ sizeLine ∧ ∀ p, H p = none → Q (.ref p) (upd H p (.tup xs))
def LstK (xs : List V) (H : Hp) (Q : VK) : Prop := xs.length ≤ sizeLine ∧ ∀ p, H p = none → Q (.ref p) (upd H p (.lst xs))
theorem rd_tupK {tt : TA} {σ : L2.St} {H : Hp} {Q : VK} (h : tt σ H fun xs H1 => TupK xs H1 Q) : tTup tt σ H Q := h
theorem rd_lstK {tt : TA} {σ : L2.St} {H : Hp} {Q : VK} (h : tt σ H fun xs H1 => LstK xs H1 Q) : tLst tt σ H Q := h
section
variable {K : PySem.W.Frag} {F H : Hp} {Q : VK} {xs ys : List V} {ds es : List PyData} {S : List Addr} {p r : Addr}
theorem newL (fh : Same F H) (k : ∀ F' H' p, Grow [] F H F' H' → H p = none → F' p = some (.lst xs) → Q (.ref p) H') (hz : xs.length ≤ sizeLine := by exact sz_of (by simp)) : LstK xs H Q :=
  ⟨hz, fun p hp => k (upd F p (.lst xs)) _ p ((Grow.refl fh).new hp) hp upd_same⟩
theorem newT (fh : Same F H) (k : ∀ F' H' p, Grow [] F H F' H' → H p = none → F' p = some (.tup xs) → Q (.ref p) H') (hz : xs.length ≤ sizeLine := by exact sz_of (by simp)) : TupK xs H Q :=
  ⟨hz, fun p hp => k (upd F p (.tup xs)) _ p ((Grow.refl fh).new hp) hp upd_same⟩
/-- a new list that will be written -/
theorem newO (fh : Same F H) (k : ∀ H' p, Grow [] F H F H' → H p = none → Hold F H' p (.lst xs) → Q (.ref p) H') (hz : xs.length ≤ sizeLine := by exact sz_of (by simp)) : LstK xs H Q :=
  ⟨hz, fun p hp => k _ p ((Grow.refl fh).newO hp) hp (Hold.new fh hp)⟩
/-- .. of data -/
theorem newLD (fh : Same F H) (h : DpAll K F xs ds) (k : ∀ F' H' p, Grow [] F H F' H' → H p = none → Dp K F' (.ref p) (.list ds) → Q (.ref p) H') (hz : xs.length ≤ sizeLine := by exact sz_of (by simp)) : LstK xs H Q :=
  newL fh (fun F' H' p g n e => k F' H' p g n (.lst (sqL_of e) (h.mono g.ff))) hz
theorem newTD (fh : Same F H) (h : DpAll K F xs ds) (k : ∀ F' H' p, Grow [] F H F' H' → H p = none → Dp K F' (.ref p) (.tuple ds) → Q (.ref p) H') (hz : xs.length ≤ sizeLine := by exact sz_of (by simp)) : TupK xs H Q :=
  newT fh (fun F' H' p g n e => k F' H' p g n (.tup (sqT_of e) (h.mono g.ff))) hz
/-- list(x), x a list or a tuple -/
theorem new_list (fh : Same F H) (h : SqL K F r xs ∨ SqT K F r xs) (k : ∀ F' H' p, Grow [] F H F' H' → H p = none → F' p = some (.lst xs) → Q (.ref p) H') : rListOf K [.ref r] H Q :=
  ⟨r, xs, rfl, h.imp (fun z => fh.seq z) (fun z => sqT_same fh z), fun l hl => k (upd F l (.lst xs)) _ l ((Grow.refl fh).new hl) hl upd_same⟩
/-- x + y of lists: what stands in the heap -/
theorem new_cat (fh : Same F H) (h1 : H p = some (.lst xs)) (h2 : H r = some (.lst ys)) (hz : xs.length + ys.length ≤ 100000) (k : ∀ F' H' l, Grow [] F H F' H' → H l = none → F' l = some (.lst (xs ++ ys)) → Q (.ref l) H') : rCat (.ref p) (.ref r) H Q :=
  ⟨p, r, xs, ys, rfl, rfl, h1, h2, sz_of hz, fun l hl => k (upd F l (.lst (xs ++ ys))) _ l ((Grow.refl fh).new hl) hl upd_same⟩
/-- == of data -/
theorem eq_dat {x y : V} {d : PyData} (hx : Dp K F x d) (hy : Dp K F y d) (fh : Same F H) (s : SeqAt.shaped d = true) (q : Q (.bl true) H) : rEqD K x y H Q :=
  rd_eqD (hx.mono fh) (hy.mono fh) s s (by
    have h : PyData.canLay0 d = true := by
      have := s
      unfold SeqAt.shaped at this
      rw [Bool.and_eq_true] at this
      exact this.1
    rw [eqv_self d h]; exact q)
theorem ne_dat {x y : V} {d : PyData} (hx : Dp K F x d) (hy : Dp K F y d) (fh : Same F H) (s : SeqAt.shaped d = true) (q : Q (.bl false) H) : rNeD K x y H Q :=
  rd_neD (hx.mono fh) (hy.mono fh) s s (by
    have h : PyData.canLay0 d = true := by
      have := s
      unfold SeqAt.shaped at this
      rw [Bool.and_eq_true] at this
      exact this.1
    rw [eqv_self d h]; exact q)
/-- the bag of a law: two numbers, written by each draw -/
structure Bag (F H : Hp) (b : Addr) : Prop where
  fh : Same F H
  fb : F b = none
  hb : ∃ d m : Int, H b = some (.lst [.int d, .int m])
theorem Bag.nn {b : Addr} (h : Bag F H b) : H b ≠ none := by
  obtain ⟨d, m, e⟩ := h.hb
  exact some_ne e
theorem Bag.go0 {b : Addr} {F' H' : Hp} (h : Bag F H b) (g : Grow [] F H F' H') : Bag F' H' b := by
  obtain ⟨d, m, e⟩ := h.hb
  exact ⟨g.fh, (g.own b h.fb h.nn).1, d, m, g.same _ _ e⟩
theorem Bag.mk' {b : Addr} {F' H' : Hp} (h : Bag F H b) (g : Grow [b] F H F' H') (e : ∃ d m : Int, H' b = some (.lst [.int d, .int m])) : Bag F' H' b := ⟨g.fh, (g.own b h.fb h.nn).1, e⟩
theorem Bag.turn {b : Addr} (h : Bag F H b) (d m : Int) : Grow [b] F H F (upd H b (.lst [.int d, .int m])) ∧ Bag F (upd H b (.lst [.int d, .int m])) b :=
  ⟨(Grow.refl h.fh).mut h.fb (.inl (by simp)), same_mut h.fh h.fb, h.fb, d, m, upd_same⟩
theorem Bag.mut {b p : Addr} {o u : HO} (h : Bag F H b) (hp : Hold F H p o) (n : p ≠ b) : Bag F (upd H p u) b := by
  obtain ⟨d, m, e⟩ := h.hb
  exact ⟨same_mut h.fh hp.f, h.fb, d, m, upd_old n.symm e⟩
theorem Hold.goB {F' H' : Hp} {p b : Addr} {o : HO} (h : Hold F H p o) (g : Grow [b] F H F' H') (n : p ≠ b) : Hold F' H' p o := h.go g (by simpa using n)
end
section
variable {K : PySem.W.Frag} {σ : L2.St} {F H : Hp} {g : TG} {tt : TT} {te : TE} {vs : List Nat} {Q : VK} {S : List Addr}
/-- a comprehension, turn by turn: A tells of the turn, the frozen part and what is made so far; Z of the frozen part and the heap -/
theorem lcG {J : It} {n : Nat} {X : Nat → V → Prop} (A : Nat → Hp → List V → Prop) (Z : Hp → Hp → Prop) (fh : Same F H) (hz : n ≤ 100000)
    (hst : ∀ H', Same F H' → J.stop n H') (hgo : ∀ i H', Same F H' → i < n → J.go i H') (hy : ∀ i H1 x H2, i < n → Same F H1 → J.yld i H1 x H2 → H2 = H1 ∧ X i x)
    (a0 : A 0 F []) (z0 : Z F H) (zup : ∀ F' H' D o, Z F' H' → H D = none → F' D = none → Z F' (upd H' D o)) (al : ∀ i F' acc, A i F' acc → acc.length ≤ i) (am : ∀ i F1 F2 acc, Same F1 F2 → A i F1 acc → A i F2 acc)
    (turn : ∀ i x F1 H1 acc, i < n → X i x → Grow S F H F1 H1 → Z F1 H1 → A i F1 acc → ∀ (Done : Hp → Prop) (Kept : VK), (∀ F2 H2, Grow S F1 H1 F2 H2 → Z F2 H2 → A (i + 1) F2 acc → Done H2) →
      (∀ F2 H2 y, Grow S F1 H1 F2 H2 → Z F2 H2 → A (i + 1) F2 (acc ++ [y]) → Kept y H2) →
      g x (wipe σ vs) H1 fun σ2 H2 => wipe σ2 vs = wipe σ vs ∧ tt σ2 H2 fun b H3 => if b = true then te σ2 H3 Kept else Done H3)
    (hS : ∀ D, H D = none → D ∉ S)
    (q : ∀ F' H' D acc, Grow S F H F' H' → Z F' H' → H D = none → Hold F' H' D (.lst acc) → A n F' acc → Q (.ref D) H') : LcK J g tt te vs σ H Q := by
  intro D hD
  have fD : F D = none := fh.free hD
  have nD : D ∉ S := hS D hD
  refine ⟨fun i m H' => m = n - i ∧ i ≤ n ∧ ∃ F' acc, Grow S F H F' H' ∧ Z F' H' ∧ Hold F' H' D (.lst acc) ∧ A i F' acc, ⟨n, by simp, Nat.zero_le _, F, [], (Grow.refl fh).newO hD, zup _ _ _ _ z0 hD fD, Hold.new fh hD, a0⟩, ?_⟩
  rintro i m H1 ⟨rfl, hi, F1, acc, g1, z1, d1, a1⟩
  have s1 : Same F H1 := g1.ff.trans g1.fh
  by_cases hlt : i < n
  · refine .inr ⟨hgo i H1 s1 hlt, fun H' => i + 1 ≤ n ∧ ∃ F' acc, Grow S F H F' H' ∧ Z F' H' ∧ Hold F' H' D (.lst acc) ∧ A (i + 1) F' acc, fun H' p' => ⟨n - (i + 1), by omega, rfl, p'⟩, fun x H2 y => ?_⟩
    obtain ⟨rfl, hx⟩ := hy i H1 x H2 hlt s1 y
    refine turn i x F1 H2 acc hlt hx g1 z1 a1 _ _ (fun F3 H3 g3 z3 a3 => ?_) (fun F3 H3 y g3 z3 a3 => ?_)
    · exact ⟨hlt, F3, acc, g1.trans g3, z3, d1.go g3 nD, a3⟩
    · have d3 := d1.go g3 nD
      refine ⟨acc, d3.h, ?_, hlt, F3, acc ++ [y], (g1.trans g3).mut d3.f (.inr hD), zup _ _ _ _ z3 hD d3.f, d3.put, a3⟩
      have := al _ _ _ a1
      rw [sizeLine_eq]
      omega
  · have e : i = n := by omega
    subst e
    exact .inl ⟨hst H1 s1, q F1 H1 D acc g1 z1 hD d1 a1⟩
/-- pure, over a frozen list -/
theorem lcPL {a : Addr} {xs : List V} (A : Nat → Hp → List V → Prop) (fh : Same F H) (hx : SqL K F a xs) (hz : xs.length ≤ 100000)
    (a0 : A 0 F []) (al : ∀ i F' acc, A i F' acc → acc.length ≤ i) (am : ∀ i F1 F2 acc, Same F1 F2 → A i F1 acc → A i F2 acc)
    (turn : ∀ i x F1 H1 acc, i < xs.length → xs[i]? = some x → Grow [] F H F1 H1 → A i F1 acc → ∀ (Done : Hp → Prop) (Kept : VK), (∀ F2 H2, Grow [] F1 H1 F2 H2 → A (i + 1) F2 acc → Done H2) →
      (∀ F2 H2 y, Grow [] F1 H1 F2 H2 → A (i + 1) F2 (acc ++ [y]) → Kept y H2) →
      g x (wipe σ vs) H1 fun σ2 H2 => wipe σ2 vs = wipe σ vs ∧ tt σ2 H2 fun b H3 => if b = true then te σ2 H3 Kept else Done H3)
    (q : ∀ F' H' D acc, Grow [] F H F' H' → H D = none → Hold F' H' D (.lst acc) → A xs.length F' acc → Q (.ref D) H') : LcK (Itl K a) g tt te vs σ H Q :=
  lcG (X := fun i x => xs[i]? = some x) A (fun _ _ => True) fh hz (fun H' s => ⟨xs, s.seq hx, Nat.le_refl _⟩) (fun i H' s hi => ⟨xs, xs[i], s.seq hx, by simp [hi]⟩)
    (fun i H1 x H2 hi s1 y => by obtain ⟨rfl, y⟩ := y; exact ⟨rfl, y xs (s1.seq hx)⟩) a0 trivial (fun _ _ _ _ _ _ _ => trivial) al am
    (fun i x F1 H1 acc hi hx' g1 _ a1 Done Kept hd hk => turn i x F1 H1 acc hi hx' g1 a1 Done Kept (fun F2 H2 g2 a2 => hd F2 H2 g2 trivial a2) fun F2 H2 y g2 a2 => hk F2 H2 y g2 trivial a2)
    (fun _ _ => by simp) fun F' H' D acc g' _ n h a' => q F' H' D acc g' n h a'
theorem lcPT {a : Addr} {xs : List V} (A : Nat → Hp → List V → Prop) (fh : Same F H) (hx : SqT K F a xs) (hz : xs.length ≤ 100000)
    (a0 : A 0 F []) (al : ∀ i F' acc, A i F' acc → acc.length ≤ i) (am : ∀ i F1 F2 acc, Same F1 F2 → A i F1 acc → A i F2 acc)
    (turn : ∀ i x F1 H1 acc, i < xs.length → xs[i]? = some x → Grow [] F H F1 H1 → A i F1 acc → ∀ (Done : Hp → Prop) (Kept : VK), (∀ F2 H2, Grow [] F1 H1 F2 H2 → A (i + 1) F2 acc → Done H2) →
      (∀ F2 H2 y, Grow [] F1 H1 F2 H2 → A (i + 1) F2 (acc ++ [y]) → Kept y H2) →
      g x (wipe σ vs) H1 fun σ2 H2 => wipe σ2 vs = wipe σ vs ∧ tt σ2 H2 fun b H3 => if b = true then te σ2 H3 Kept else Done H3)
    (q : ∀ F' H' D acc, Grow [] F H F' H' → H D = none → Hold F' H' D (.lst acc) → A xs.length F' acc → Q (.ref D) H') : LcK (Itt K a) g tt te vs σ H Q :=
  lcG (X := fun i x => xs[i]? = some x) A (fun _ _ => True) fh hz (fun H' s => ⟨xs, sqT_same s hx, Nat.le_refl _⟩) (fun i H' s hi => ⟨xs, xs[i], sqT_same s hx, by simp [hi]⟩)
    (fun i H1 x H2 hi s1 y => by obtain ⟨rfl, y⟩ := y; exact ⟨rfl, y xs (sqT_same s1 hx)⟩) a0 trivial (fun _ _ _ _ _ _ _ => trivial) al am
    (fun i x F1 H1 acc hi hx' g1 _ a1 Done Kept hd hk => turn i x F1 H1 acc hi hx' g1 a1 Done Kept (fun F2 H2 g2 a2 => hd F2 H2 g2 trivial a2) fun F2 H2 y g2 a2 => hk F2 H2 y g2 trivial a2)
    (fun _ _ => by simp) fun F' H' D acc g' _ n h a' => q F' H' D acc g' n h a'
/-- with draws, over a frozen list -/
theorem lcBL {a b : Addr} {xs : List V} (A : Nat → Hp → List V → Prop) (hb : Bag F H b) (hx : SqL K F a xs) (hz : xs.length ≤ 100000)
    (a0 : A 0 F []) (al : ∀ i F' acc, A i F' acc → acc.length ≤ i) (am : ∀ i F1 F2 acc, Same F1 F2 → A i F1 acc → A i F2 acc)
    (turn : ∀ i x F1 H1 acc, i < xs.length → xs[i]? = some x → Grow [b] F H F1 H1 → Bag F1 H1 b → A i F1 acc → ∀ (Done : Hp → Prop) (Kept : VK), (∀ F2 H2, Grow [b] F1 H1 F2 H2 → Bag F2 H2 b → A (i + 1) F2 acc → Done H2) →
      (∀ F2 H2 y, Grow [b] F1 H1 F2 H2 → Bag F2 H2 b → A (i + 1) F2 (acc ++ [y]) → Kept y H2) →
      g x (wipe σ vs) H1 fun σ2 H2 => wipe σ2 vs = wipe σ vs ∧ tt σ2 H2 fun b H3 => if b = true then te σ2 H3 Kept else Done H3)
    (q : ∀ F' H' D acc, Grow [b] F H F' H' → Bag F' H' b → H D = none → Hold F' H' D (.lst acc) → A xs.length F' acc → Q (.ref D) H') : LcK (Itl K a) g tt te vs σ H Q :=
  lcG (X := fun i x => xs[i]? = some x) A (fun F' H' => Bag F' H' b) hb.fh hz (fun H' s => ⟨xs, s.seq hx, Nat.le_refl _⟩) (fun i H' s hi => ⟨xs, xs[i], s.seq hx, by simp [hi]⟩)
    (fun i H1 x H2 hi s1 y => by obtain ⟨rfl, y⟩ := y; exact ⟨rfl, y xs (s1.seq hx)⟩) a0 hb
    (fun F' H' D o z n f => by
      obtain ⟨d, m, e⟩ := z.hb
      exact ⟨same_mut z.fh f, z.fb, d, m, upd_old (fun q => hb.nn (q ▸ n)) e⟩) al am turn
    (fun D n => by simp; exact fun q => hb.nn (q ▸ n)) q
theorem rng_yld {n : Nat} {i : Nat} {H1 H2 : Hp} {x : V} (h : (Itr 0 n).yld i H1 x H2) : H2 = H1 ∧ x = .int (i : Int) := by
  obtain ⟨rfl, rfl⟩ := h
  have e : (0 : Int) + (i : Int) = (i : Int) := Int.zero_add _
  rw [e]
  exact ⟨rfl, rfl⟩
/-- over range(n) -/
theorem lcPR {n : Nat} (A : Nat → Hp → List V → Prop) (fh : Same F H) (hz : n ≤ 100000)
    (a0 : A 0 F []) (al : ∀ i F' acc, A i F' acc → acc.length ≤ i) (am : ∀ i F1 F2 acc, Same F1 F2 → A i F1 acc → A i F2 acc)
    (turn : ∀ (i : Nat) F1 H1 acc, i < n → Grow [] F H F1 H1 → A i F1 acc → ∀ (Done : Hp → Prop) (Kept : VK), (∀ F2 H2, Grow [] F1 H1 F2 H2 → A (i + 1) F2 acc → Done H2) →
      (∀ F2 H2 y, Grow [] F1 H1 F2 H2 → A (i + 1) F2 (acc ++ [y]) → Kept y H2) →
      g (.int (i : Int)) (wipe σ vs) H1 fun σ2 H2 => wipe σ2 vs = wipe σ vs ∧ tt σ2 H2 fun b H3 => if b = true then te σ2 H3 Kept else Done H3)
    (q : ∀ F' H' D acc, Grow [] F H F' H' → H D = none → Hold F' H' D (.lst acc) → A n F' acc → Q (.ref D) H') : LcK (Itr 0 n) g tt te vs σ H Q :=
  lcG (X := fun i x => x = .int (i : Int)) A (fun _ _ => True) fh hz (fun H' s => Nat.le_refl _) (fun i H' s hi => hi)
    (fun i H1 x H2 hi s1 y => rng_yld y) a0 trivial (fun _ _ _ _ _ _ _ => trivial) al am
    (fun i x F1 H1 acc hi hx' g1 _ a1 Done Kept hd hk => by subst hx'; exact turn i F1 H1 acc hi g1 a1 Done Kept (fun F2 H2 g2 a2 => hd F2 H2 g2 trivial a2) fun F2 H2 y g2 a2 => hk F2 H2 y g2 trivial a2)
    (fun _ _ => by simp) fun F' H' D acc g' _ n h a' => q F' H' D acc g' n h a'
theorem lcBR {n : Nat} {b : Addr} (A : Nat → Hp → List V → Prop) (hb : Bag F H b) (hz : n ≤ 100000)
    (a0 : A 0 F []) (al : ∀ i F' acc, A i F' acc → acc.length ≤ i) (am : ∀ i F1 F2 acc, Same F1 F2 → A i F1 acc → A i F2 acc)
    (turn : ∀ (i : Nat) F1 H1 acc, i < n → Grow [b] F H F1 H1 → Bag F1 H1 b → A i F1 acc → ∀ (Done : Hp → Prop) (Kept : VK), (∀ F2 H2, Grow [b] F1 H1 F2 H2 → Bag F2 H2 b → A (i + 1) F2 acc → Done H2) →
      (∀ F2 H2 y, Grow [b] F1 H1 F2 H2 → Bag F2 H2 b → A (i + 1) F2 (acc ++ [y]) → Kept y H2) →
      g (.int (i : Int)) (wipe σ vs) H1 fun σ2 H2 => wipe σ2 vs = wipe σ vs ∧ tt σ2 H2 fun b H3 => if b = true then te σ2 H3 Kept else Done H3)
    (q : ∀ F' H' D acc, Grow [b] F H F' H' → Bag F' H' b → H D = none → Hold F' H' D (.lst acc) → A n F' acc → Q (.ref D) H') : LcK (Itr 0 n) g tt te vs σ H Q :=
  lcG (X := fun i x => x = .int (i : Int)) A (fun F' H' => Bag F' H' b) hb.fh hz (fun H' s => Nat.le_refl _) (fun i H' s hi => hi)
    (fun i H1 x H2 hi s1 y => rng_yld y) a0 hb
    (fun F' H' D o z n f => by
      obtain ⟨d, m, e⟩ := z.hb
      exact ⟨same_mut z.fh f, z.fb, d, m, upd_old (fun q => hb.nn (q ▸ n)) e⟩) al am
    (fun i x F1 H1 acc hi hx' g1 z1 a1 Done Kept hd hk => by subst hx'; exact turn i F1 H1 acc hi g1 z1 a1 Done Kept hd hk)
    (fun D n => by simp; exact fun q => hb.nn (q ▸ n)) q
/-- each row gives a datum or nothing: pure comprehension over a frozen list of data -/
theorem lcDat {ρ : Type} {a : Addr} {xs : List V} {rows : List ρ} {ds : ρ → PyData} (f : ρ → Bool) (v : ρ → PyData) (fh : Same F H) (hx : SqL K F a xs) (hd : DpAll K F xs (rows.map ds)) (hz : rows.length ≤ 100000)
    (turn : ∀ x r F1 H1, r ∈ rows → Dp K F1 x (ds r) → Grow [] F H F1 H1 → ∀ (Done : Hp → Prop) (Kept : VK), (∀ F2 H2, Grow [] F1 H1 F2 H2 → f r = false → Done H2) →
      (∀ F2 H2 y, Grow [] F1 H1 F2 H2 → f r = true → Dp K F2 y (v r) → Kept y H2) →
      g x (wipe σ vs) H1 fun σ2 H2 => wipe σ2 vs = wipe σ vs ∧ tt σ2 H2 fun b H3 => if b = true then te σ2 H3 Kept else Done H3)
    (q : ∀ F' H' D acc, Grow [] F H F' H' → H D = none → Hold F' H' D (.lst acc) → DpAll K F' acc ((rows.filter f).map v) → Q (.ref D) H') : LcK (Itl K a) g tt te vs σ H Q := by
  have hn : xs.length = rows.length := by simpa using hd.length
  refine lcPL (fun i F' acc => DpAll K F' acc (((rows.take i).filter f).map v)) fh hx (by omega) .nil (fun i F' acc h => ?_) (fun i F1 F2 acc s h => h.mono s) (fun i x F1 H1 acc hi hx' g1 a1 Done Kept hdn hk => ?_) (fun F' H' D acc g' n h a' => q F' H' D acc g' n h (by rw [hn, List.take_length] at a'; exact a'))
  · rw [h.length, List.length_map]
    have h1 := List.length_filter_le f (rows.take i)
    have h2 : (rows.take i).length ≤ i := by rw [List.length_take]; omega
    omega
  · obtain ⟨d, e, hd'⟩ := hd.get hx'
    rw [List.getElem?_map] at e
    have hr : i < rows.length := by omega
    rw [List.getElem?_eq_getElem hr] at e
    cases e
    refine turn x rows[i] F1 H1 (List.getElem_mem hr) (hd'.mono g1.ff) g1 Done Kept (fun F2 H2 g2 hf => ?_) (fun F2 H2 y g2 hf hv => ?_)
    · refine hdn F2 H2 g2 ?_
      rw [filter_take_succ f (List.getElem?_eq_getElem hr), hf]
      simp only [Bool.false_eq_true, if_false, List.append_nil]
      exact a1.mono g2.ff
    · refine hk F2 H2 y g2 ?_
      rw [filter_take_succ f (List.getElem?_eq_getElem hr), hf]
      simp only [if_true, List.map_append, List.map_cons, List.map_nil]
      exact (a1.mono g2.ff).snoc hv
end
end Hk

/-! unary operators and abs by own special methods -/
namespace Hk
open PySem PySem.Spec PyProof.Rows L2
section
variable {X : Cx} {n : Nat} {C : Addr} {sp : Sp} {E : XK}
def rUnO (C : Addr) (sp : Sp) (E : XK) : V → Hp → VK → Prop := fun x H Q => ∃ a dx fs, x = .ref a ∧ H a = some (.ins C dx fs) ∧ sp [.ref a] H Q E
theorem un_O {op : UnaryOp} {nm : Str} (G : Own X C nm n sp E) (hr : Room n X.A) (hop : (match op with | .Invert => some ("__invert__" : Str) | .UAdd => some "__pos__" | .USub => some "__neg__" | .Not => none) = some nm := by rfl) : UnR X (unaryOp op) (rUnO C sp E) := by
  obtain ⟨f, fd, ps, CX, F, hs, hf, hb, hx⟩ := G.ex
  intro pins s σ H x u Q I r h
  obtain ⟨a, dx, fs, rfl, ha, q⟩ := h
  cases r
  obtain ⟨mA, J, _⟩ := ins_get I.hok ha
  obtain ⟨od, J, _⟩ := J.look
  obtain ⟨m, hF⟩ := I.fr
  have sb : Sub X n X.A := ⟨hr, rfl⟩
  have z := run_sub (vs := [V.ref a]) sb F hb hx I (.cons rfl .nil) q
  unfold unaryOp
  refine wpAny_holding ?_
  cases op with
  | Not => cases hop
  | _ =>
    cases hop
    exact wpAny_bind (PySem.W.special_fn I.kIn J hs (beq_iff_eq.mp hf) (wpAny_mono z (fun v s' h' => wpAny_pure h') fun _ _ y => y))
def rAbsO (C : Addr) (sp : Sp) (E : XK) : List V → Hp → VK → Prop := fun xs H Q => ∃ a dx fs, xs = [.ref a] ∧ H a = some (.ins C dx fs) ∧ sp [.ref a] H Q E
theorem call_absO (G : Own X C "__abs__" n sp E) (hr : Room (n + 1) X.A) : CallR X (.builtin "abs") (rAbsO C sp E) := by
  obtain ⟨f, fd, ps, CX, F, hs, hf, hb, hx⟩ := G.ex
  intro pins s σ H xs us Q I r h
  obtain ⟨a, dx, fs, rfl, ha, q⟩ := h
  cases r with
  | cons r1 r2 =>
    cases r2
    cases r1
    obtain ⟨mA, J, _⟩ := ins_get I.hok ha
    obtain ⟨od, J, _⟩ := J.look
    have sb : Sub X n X.A.in1 := ⟨hr.in1, rfl⟩
    have z := run_sub (vs := [V.ref a]) sb F hb hx I (.cons rfl .nil) q
    refine PySem.Calls.call_function_entry kind_abs plain_abs entry_abs (args_abs _) ?_
    unfold Builtin.«abs»
    refine wpAny_bind (m := oneArg "abs" _) (wpAny_pure ?_)
    exact wpAny_bind (PySem.W.special_fn I.kIn J hs (beq_iff_eq.mp hf) (wpAny_mono z (fun v s' h' => wpAny_pure ⟨_, rfl, h'⟩) fun _ _ y => y))
theorem rd_unO {a dx : Addr} {fs : List (Str × V)} {H : Hp} {Q : VK} (h : H a = some (.ins C dx fs)) (q : sp [.ref a] H Q E) : rUnO C sp E (.ref a) H Q := ⟨a, dx, fs, rfl, h, q⟩
theorem rd_absO {a dx : Addr} {fs : List (Str × V)} {H : Hp} {Q : VK} (h : H a = some (.ins C dx fs)) (q : sp [.ref a] H Q E) : rAbsO C sp E [.ref a] H Q := ⟨a, dx, fs, rfl, h, q⟩
end
end Hk

/-! Catching own errors that have fields: e.f, isinstance(e, C), class methods called in a try. -/
namespace Hk
open PySem PySem.Spec PyProof.Rows L2
section
variable {X : Cx} {a D : Addr} {oe : Obj} {cls : Value} {d : Option Addr} {pn : List (Addr × Obj)}
def rIsX (K : PySem.W.Frag) (D a : Addr) (cls : Value) (d : Option Addr) : List V → Hp → VK → Prop := fun xs H Q => ∃ (c : V) (u : Value) (b : Bool) (dd : Addr) (fs : List (Str × V)), xs = [.ref a, c] ∧ cls = .ref D ∧ d = some dd ∧ H dd = some (.xd fs) ∧ ClsV c u ∧ PySem.W.kitOne K (.ref D) u = some b ∧ Q (.bl b) H
theorem call_isX (G : ExcC X.K D) (hz : Zc cls d oe) (hf : ∃ vs, oe.data = .fields vs) : CallR (X.suite a ((a, oe) :: pn)) (.builtin "isinstance") (rIsX X.K D a cls d) := by
  intro pins s σ H xs us Q I r h
  obtain ⟨c, u, b, dd, fs, ex, ec, ed, ea, k, e, q⟩ := h
  subst ex ec ed
  obtain ⟨u1, u2, rfl, r1, r2⟩ := vals2 r
  cases (show u1 = Value.ref a from r1)
  have e2 := k.eq r2
  subst e2
  obtain ⟨hg, _⟩ := I.pin (a, oe) (List.mem_append_left _ List.mem_cons_self)
  obtain ⟨vs, hv⟩ := hf
  obtain ⟨mA, hns, _⟩ := (show ObjOk X.prog X.w H s.heap dd (.xd fs) from I.hok dd _ ea)
  obtain ⟨od, ho, _⟩ := lookIn_ns hns
  have J : PySem.W.InstAt s.heap a oe D (some od) := by
    refine ⟨hg, hz.1, ?_, ?_⟩
    · unfold PySem.W.notCls
      rw [hv] <;> rfl
    · rw [hz.2]
      exact ho
  have hcl : (PySem.W.clsIn X.K D).isSome = true := by
    obtain ⟨cd, h1, _⟩ := PySem.W.any_some G.hd
    rw [h1]
    rfl
  exact PySem.W.kia_one (PySem.W.kitx_exc hcl G.hg G.hk G.hs G.ha G.hn G.ht G.hm) I.kIn J e (fun z => nomatch z) fun tk => ⟨.bl b, H, I.tok tk, rfl, q⟩
end
section
variable {X : Cx} {CX : CXT} {k : Nat} {f C p g : Addr} {mc : Value} {sp : Sp} {E : L2.St → XK} {o e : Expr} {es : List Expr} {m : Str} {pos apos : Pos} {ta : TE} {t : TA} {pl : Sem Bool}
theorem run_at {pins : List (Addr × Obj)} {σ : L2.St} {H : Hp} {s : Shared} {Q : VK} {us : List Value} {vs : List V} {E1 : XK} (F : FnR X.prog X.w X.K X.mg X.base CX k f sp) (hr : Room k X.A) (hx : PassesAt CX X σ E1) (I : Inv X pins σ H s) (rv : Vals vs us) (h : sp vs H Q E1) :
    codeAny (model X.prog X.w) X.A (.call (.ref f) ⟨us, []⟩) (fun r s' => match r with | .ok (.ret v) => EP X pins σ Q v s' | .ok _ => False | .error e => X.xe e s') s :=
  codeAny_mono (F X.A X.stack s H us vs Q E1 hr I.env0 rv h) fun r s' hq => match r, hq with
    | .error e, hq => hx pins H s e s' I hq
    | .ok (.ret _), hq => I.after hq
    | .ok .next, hq => False.elim hq
    | .ok .brk, hq => False.elim hq
    | .ok .cont, hq => False.elim hq
/-- C.m(..), m a class method that may raise, in a try -/
def tCMethS (C : Addr) (sp : Sp) (E : L2.St → XK) (ta : TE) (t : TA) : TE := fun σ H Q => ta σ H fun x H1 => x = .ref C ∧ t σ H1 fun vs H2 => sp (.ref C :: vs) H2 Q (E σ)
theorem pe_cmethS (he : PE X o ta) (r : ClX.CRead X.K C mc) (c : ClX.CMet X.K C mc m p g) (F : FnR X.prog X.w X.K X.mg X.base CX k g sp) (hr : Room k X.A) (hx : ∀ σ, PassesAt CX X σ (E σ)) (ha : PA X (e :: es) t)
    (h1 : starEach (e :: es) X.env = (false, eval e X.env) :: starEach es X.env := by rfl) (h2 : (backTo pos (starEach es X.env)).any (·.1) = false := by rfl)
    (h3 : eval (.Call (.Attribute o m apos) (e :: es) [] pos) X.env = (do
      let ov ← eval o X.env
      standAt apos.atName
      let (f, first) ← holding [ov] (getMethod ov m pl)
      callWith pos f first (backTo pos (starEach (e :: es) X.env)) (backToKw pos (keywordEach [] X.env))) := by rfl) :
    PE X (.Call (.Attribute o m apos) (e :: es) [] pos) (tCMethS C sp E ta t) := by
  refine ⟨fun pins s σ H Q I h => ?_⟩
  refine PySem.W.methodCall_KW (pl := pl) (thn (he.run pins s σ H _ I h) fun u s1 ⟨x, H1, I1, rx, ex, q⟩ => ?_) h3
  subst ex
  obtain rfl : u = Value.ref C := rx
  refine ClX.getmethcm_ok I1 r c fun s2 I2 => ?_
  refine ClX.callwith_cm I2 (ClX.base_none I1 (Nat.le_refl _)) c.fi (thn (ha.run pos _ s2 σ H1 _ I2 q) fun us s3 ⟨vs, H2, I3, rv, q2⟩ => ⟨⟨ClX.pin_at I3, I3.kIn⟩, ?_⟩) h1 h2
  refine thn (wpAny_call (PySem.W.method_call (ClX.pin_at I3) (run_at (us := .ref C :: us) (vs := .ref C :: vs) F hr (hx σ) I3 (.cons rfl rv) q2))) fun _ _ y => ClX.unpinE y
end
section
variable {K : PySem.W.Frag} {σ : L2.St} {H : Hp} {Q : VK} {a D dd : Addr} {cls c : Value} {d : Option Addr} {i : Nat} {ts : Addr → Value → Option Addr → TS} {Wout : WX} {De : Ends} {te ta : TE} {tt : TA} {f : Str} {v : V} {sp : Sp} {E : L2.St → XK} {C : Addr}
theorem rd_wAs (e : PySem.W.exmOne K cls c = some true) (h : ∀ a, H a = none → ts a cls d ⟨fun σ' H' => De.nx (σ'.set i none) H', De.rt, fun σ' H' => De.bk (σ'.set i none) H', fun σ' H' => De.ct (σ'.set i none) H'⟩ (σ.set i (some (.ref a))) H) : wAs K c i ts Wout De cls d σ H :=
  ⟨true, e, fun _ => h, fun q => Bool.noConfusion q⟩
theorem rd_xf (h : te σ H fun x H1 => x = .ref a ∧ cls = .ref C ∧ ∃ (dd : Addr) (fs : List (Str × V)) (v : V), d = some dd ∧ H1 dd = some (.xd fs) ∧ fs.lookup f = some v ∧ Q v H1) : tXf a cls d C f te σ H Q := h
theorem rd_xfK (e : H dd = some (.xd [(f, v)])) (q : Q v H) : V.ref a = .ref a ∧ (Value.ref C) = .ref C ∧ ∃ (dd' : Addr) (fs : List (Str × V)) (v : V), (some dd) = some dd' ∧ H dd' = some (.xd fs) ∧ fs.lookup f = some v ∧ Q v H :=
  ⟨rfl, rfl, dd, _, v, rfl, e, by simp [List.lookup], q⟩
theorem rd_isX {u : Value} {b : Bool} {c : V} {fs : List (Str × V)} (e : H dd = some (.xd fs)) (k : ClsV c u) (h : PySem.W.kitOne K (.ref D) u = some b) (q : Q (.bl b) H) : rIsX K D a (.ref D) (some dd) [.ref a, c] H Q := ⟨c, u, b, dd, fs, rfl, rfl, rfl, e, k, h, q⟩
theorem rd_cmethS (h : ta σ H fun x H1 => x = .ref C ∧ tt σ H1 fun vs H2 => sp (.ref C :: vs) H2 Q (E σ)) : tCMethS C sp E ta tt σ H Q := h
theorem rd_callS (h : tt σ H fun vs H1 => sp vs H1 Q (E σ)) : tCallS sp E tt σ H Q := h
end
end Hk

/-! x in a tuple of data; a list or a tuple walked; C(..) in a try; bool(o); C.m() -/
namespace Hk
open PySem PySem.Spec PyProof.Rows L2
section
variable {X : Cx}
def rInDT (K : PySem.W.Frag) : R2 := fun x y H Q => ∃ d ds, Dp K H x d ∧ Dp K H y (.tuple ds) ∧ SeqAt.shaped d = true ∧ SeqAt.shaped (.tuple ds) = true ∧ Q (.bl (ds.any fun z => PyData.eqv z d)) H
def rNotInDT (K : PySem.W.Frag) : R2 := fun x y H Q => ∃ d ds, Dp K H x d ∧ Dp K H y (.tuple ds) ∧ SeqAt.shaped d = true ∧ SeqAt.shaped (.tuple ds) = true ∧ Q (.bl (!ds.any fun z => PyData.eqv z d)) H
theorem op_inDT (hu : X.A.units + 65 < cLine) : OpR X (compareOp .In) (rInDT X.K) := by
  intro pins s σ H x y v u Q I rx ry ⟨d, ds, hd, he, sd, se, q⟩
  obtain ⟨as, r1⟩ := Dp.reads I d x v hd rx
  obtain ⟨bs, r2⟩ := Dp.reads I (.tuple ds) y u he ry
  exact SeqAt.in_tuple_reads r2 r1 (SeqAt.canLay_of_shaped se) (SeqAt.canLay_of_shaped sd) (room_in_shaped sd hu) ⟨.bl _, H, I, rfl, q⟩
theorem op_notInDT (hu : X.A.units + 65 < cLine) : OpR X (compareOp .NotIn) (rNotInDT X.K) := by
  intro pins s σ H x y v u Q I rx ry ⟨d, ds, hd, he, sd, se, q⟩
  obtain ⟨as, r1⟩ := Dp.reads I d x v hd rx
  obtain ⟨bs, r2⟩ := Dp.reads I (.tuple ds) y u he ry
  exact SeqAt.notIn_tuple_reads r2 r1 (SeqAt.canLay_of_shaped se) (SeqAt.canLay_of_shaped sd) (room_in_shaped sd hu) ⟨.bl _, H, I, rfl, q⟩
/-- for x in y, y a name: a list or a tuple -/
def iSeqV (K : PySem.W.Frag) (k : Nat) : TI := fun σ H R => iList K (tVar k) σ H R ∨ iTup K (tVar k) σ H R
theorem pi_seqV {tg l : Expr} {k : Nat} (hl : PE X l (tVar k)) : PI X tg l (iSeqV X.K k) :=
  ⟨fun pins s σ H R I h => h.elim ((pi_list hl).run pins s σ H R I) ((pi_tup hl).run pins s σ H R I)⟩
end
section
variable {X : Cx} {CX : CXT} {k : Nat} {f C p g : Addr} {mc : Value} {fd : FuncData} {ps : List Str} {sp : Sp} {E : L2.St → XK} {o e : Expr} {es : List Expr} {x m : Str} {pp pos apos : Pos} {ta : TE} {t : TA} {pl : Sem Bool}
/-- C(..) in a try -/
def tMakeS (C : Addr) (sp : Sp) (E : L2.St → XK) (t : TA) : TE := fun σ H Q => t σ H fun vs H1 => ∀ x dx, H1 x = none → H1 dx = none → dx ≠ x → sp (.ref x :: vs) (upd (upd H1 dx (.own x)) x (.ins C dx [])) (fun v H2 => v = .non ∧ Q (.ref x) H2) (E σ)
theorem pe_makeS (M : Mk X.K C f) (F : FnOk X.prog X.w X.K X.mg X.base CX k f fd ps sp) (hr : Room (k + 1) X.A) (hg : Gl X x) (hm : X.mg x = some (.ref C)) (hb : Binds X.K fd ps []) (hx : ∀ σ, PassesAt CX X σ (E σ))
    (ha : PA X (e :: es) t) (hdb : (x == ("__debug__" : Str)) = false := by decide) (he : starEach (e :: es) X.env = (false, eval e X.env) :: starEach es X.env := by rfl) (hpl : (backTo pos (starEach es X.env)).any (·.1) = false := by rfl) :
    PE X (.Call (.Name x pp) (e :: es) [] pos) (tMakeS C sp E t) := by
  refine ⟨fun pins s σ H Q I h => ?_⟩
  refine wpAny_Call_Name_kw (ld_glob I hg hm ?_ hdb)
  refine PySem.W.callWith_K (h₀ := X.base) I.ok.mod.kin M.kp (thn (ha.run pos pins s σ H _ I h) fun us s1 ⟨vs, H1, I1, rv, q⟩ => ⟨I1.kIn, ?_⟩) he hpl
  have want := q (s1.heap.objs.size + 1) s1.heap.objs.size (I1.hok.fresh (Nat.le_succ _)) (I1.hok.fresh (Nat.le_refl _)) (Nat.ne_of_lt (Nat.lt_succ_self _))
  have I2 := Inv.made (C := C) I1
  have r2 : Vals (V.ref (s1.heap.objs.size + 1) :: vs) (Value.ref (s1.heap.objs.size + 1) :: us) := .cons rfl rv
  have hl : (Value.ref (s1.heap.objs.size + 1) :: us).length = ps.length := r2.length.symm.trans (F.len _ _ _ _ want)
  have bd := hb _ (Value.ref (s1.heap.objs.size + 1) :: us) I2.kIn (by rw [List.append_nil]; exact hl)
  rw [List.append_nil] at bd
  refine wpAny_call (make_map (f := f) I1.kIn M.makes M.init (beq_iff_eq.mp M.fn) (codeAny_mono (F.run _ X.stack _ _ ⟨_, []⟩ _ _ _ (E σ) (hr.make C us []) (I2.env0.make C us []) bd r2 want) fun r s' back => ?_))
  match r, back with
  | .error e, back => exact hx σ pins _ _ e s' I2 back
  | .ok (.ret u), back =>
    obtain ⟨v, H', I3, rv3, ev, q3⟩ := I2.after back
    subst ev
    exact ⟨rv3, ⟨V.ref (s1.heap.objs.size + 1), H', I3, rfl, q3⟩⟩
  | .ok .next, back => exact False.elim back
  | .ok .brk, back => exact False.elim back
  | .ok .cont, back => exact False.elim back
theorem rd_makeS {σ : L2.St} {H : Hp} {Q : VK} (h : t σ H fun vs H1 => ∀ x dx, H1 x = none → H1 dx = none → dx ≠ x → sp (.ref x :: vs) (upd (upd H1 dx (.own x)) x (.ins C dx [])) (fun v H2 => v = .non ∧ Q (.ref x) H2) (E σ)) : tMakeS C sp E t σ H Q := h
/-- C.m() -/
theorem pe_cmeth0 {E : XK} (he : PE X o ta) (r : ClX.CRead X.K C mc) (c : ClX.CMet X.K C mc m p g) (F : FnR X.prog X.w X.K X.mg X.base CX k g sp) (hr : Room k X.A) (hx : Passes CX X E)
    (h3 : eval (.Call (.Attribute o m apos) [] [] pos) X.env = (do
      let ov ← eval o X.env
      standAt apos.atName
      let (f, first) ← holding [ov] (getMethod ov m pl)
      callWith pos f first (backTo pos (starEach [] X.env)) (backToKw pos (keywordEach [] X.env))) := by rfl) :
    PE X (.Call (.Attribute o m apos) [] [] pos) (ClX.tCMeth C sp E ta tNil) := by
  refine ⟨fun pins s σ H Q I h => ?_⟩
  refine PySem.W.methodCall_KW (pl := pl) (thn (he.run pins s σ H _ I h) fun u s1 ⟨x, H1, I1, rx, ex, q⟩ => ?_) h3
  subst ex
  obtain rfl : u = Value.ref C := rx
  refine ClX.getmethcm_ok I1 r c fun s2 I2 => ?_
  refine PySem.W.callWith_M0 (K := X.K) ⟨ClX.pin_at I2, I2.kIn⟩ c.fi ?_
  exact ClX.run_cm (us := []) (vs := []) F hr hx I2 .nil q
end
section
variable {prog : Program} {w : World} {A : Around} {E : Value → Shared → Prop} {s : Shared} {x : Addr}
theorem bool_call {Q : Value → Shared → Prop} (h : wpAny (model prog w) A.in1.in1 (truthy (.ref x)) (fun b s' => Q (.bool b) s') E s) : wpAny (model prog w) A (call (.type "bool") [.ref x]) Q E s := by
  refine callType_codes (T := "bool") (Bi := Builtin.«object.__init__») (Q₁ := fun r s₁ => ∃ b, r = .bool b ∧ Q r s₁) PySem.F.called_bool (PySem.F.typeCall_bool_1 _) PySem.F.entry_object_init ?_ ?_
  · refine codeAny_of_tree ?_
    show wpAny _ A.in1.in1 (do checkBuiltinCall "bool.__new__" ⟨[.type "bool", .ref x], []⟩; again (.builtin "bool.__new__" ⟨[.type "bool", .ref x], []⟩)) _ _ s
    refine wpAny_bind (wpAny_of_eq (PySem.F.newCall_bool_1 _) (wpAny_pure ⟨plainId_quiet (by decide +kernel) _, codeAny_builtin PySem.F.entry_bool_new ?_⟩))
    rw [Around.under_plainId (by decide +kernel) _]
    unfold Builtin.«bool.__new__»
    have f1 := PySem.F.conv_sub_bool
    repeat (any_goals (first | (with_reducible refine wpAny_mono h (fun b s' z => ?_) (fun _ _ y => y)) | wp_step))
    exact ⟨b, rfl, z⟩
  · rintro obj s₁ ⟨b, rfl, hq⟩
    exact ⟨rfl, PySem.F.args_object_init_2 _ _, object_init_meets PySem.F.called_bool.init.lookup PySem.F.called_bool.made (by decide) prog w A.in1 _ s₁ ⟨rfl, rfl, hq⟩⟩
end
section
variable {X : Cx} {n : Nat} {C : Addr} {sp : Sp} {E : XK}
/-- bool(o) by __bool__ -/
def rBoolO (C : Addr) (sp : Sp) (E : XK) : List V → Hp → VK → Prop := fun xs H Q => ∃ a dx fs, xs = [.ref a] ∧ H a = some (.ins C dx fs) ∧ sp [.ref a] H (fun v H' => ∃ b : Bool, v = .bl b ∧ Q (.bl b) H') E
theorem call_boolO (G : Own X C "__bool__" n sp E) (hr : Room (n + 2) X.A) : CallR X (.type "bool") (rBoolO C sp E) := by
  obtain ⟨f, fd, ps, CX, F, hs, hf, hb, hx⟩ := G.ex
  intro pins s σ H xs us Q I r h
  obtain ⟨a, dx, fs, rfl, ha, q⟩ := h
  obtain rfl := Vals.ref1 r
  obtain ⟨mA, J, _⟩ := ins_get I.hok ha
  obtain ⟨od, J, _⟩ := J.look
  obtain ⟨m, hF⟩ := I.fr
  have sb : Sub X n X.A.in1.in1 := ⟨hr.in1.in1, rfl⟩
  refine bool_call (PySem.W.truthy_K hF I.ok.mod.kin J hs hf ?_)
  refine thn (run_sub (vs := [V.ref a]) sb F hb hx I (.cons rfl .nil) q) fun u s1 hh => ?_
  obtain ⟨v, H1, I1, rv, k, rfl, q1⟩ := hh
  cases rv
  exact ⟨.bl k, H1, I1, rfl, q1⟩
end
end Hk

/-! Expressions, plainly: rows, trees, texts, and the reader's machine. -/
namespace Ex
open PySem L2 Hk

inductive Row where
  | leaf (l n : List Nat) | asked (wd n : List Nat) | done (s : List Nat) (k : Nat)
  deriving DecidableEq
def Row.vals : Row → List V
  | .leaf l n => [.str "leaf", .str (tx l), .str (tx n)]
  | .asked wd n => [.str "asked", .str (tx wd), .str (tx n)]
  | .done s k => [.str "done", .str (tx s), .int k]
def Row.dat : Row → PyData
  | .leaf l n => .tuple [.str "leaf", .str (tx l), .str (tx n)]
  | .asked wd n => .tuple [.str "asked", .str (tx wd), .str (tx n)]
  | .done s k => .tuple [.str "done", .str (tx s), .int k]
def Row.step : Row → Bool
  | .leaf _ _ => false
  | _ => true
def Row.sign : Row → List Nat
  | .leaf l _ => l
  | .asked wd _ => wd
  | .done s _ => s
theorem Row.inv {K : PySem.W.Frag} {F : Hp} {r : Row} {v : V} (h : Dp K F v r.dat) : ∃ q, v = .ref q ∧ SqT K F q r.vals := by
  cases r <;> exact Dp.tup_flat h
theorem Row.mk {K : PySem.W.Frag} {F : Hp} {r : Row} {q : Addr} (h : SqT K F q r.vals) : Dp K F (.ref q) r.dat := by
  cases r <;> exact .tup h (flAll_mk rfl)
def nSteps (rows : List Row) : Nat := (rows.filter Row.step).length
def signsOf (rows : List Row) : List (List Nat) := (rows.filter Row.step).map Row.sign
/-- leaves, each once -/
def leavesAdd (found : List (List Nat × List Nat)) : Row → List (List Nat × List Nat)
  | .leaf l n => if (l, n) ∈ found then found else found ++ [(l, n)]
  | _ => found
def leavesOf (rows : List Row) : List (List Nat × List Nat) := rows.foldl leavesAdd []
theorem nSteps_app (a b : List Row) : nSteps (a ++ b) = nSteps a + nSteps b := by simp [nSteps]
theorem signsOf_app (a b : List Row) : signsOf (a ++ b) = signsOf a ++ signsOf b := by simp [signsOf]
theorem signs_len (rows : List Row) : (signsOf rows).length = nSteps rows := by simp [signsOf, nSteps]
theorem nSteps_le (rows : List Row) : nSteps rows ≤ rows.length := List.length_filter_le _ _

inductive Tree where
  | leaf (l n : List Nat) | asked (wd n : List Nat) | un (s : List Nat) (t : Tree) | bin (s : List Nat) (a b : Tree)
def Tree.rows : Tree → List Row
  | .leaf l n => [.leaf l n]
  | .asked wd n => [.asked wd n]
  | .un s t => t.rows ++ [.done s 1]
  | .bin s a b => a.rows ++ b.rows ++ [.done s 2]
def Tree.text : Tree → List Nat
  | .leaf l n => l ++ 58 :: n
  | .asked wd n => n ++ 46 :: wd
  | .un s t => s ++ 40 :: (t.text ++ [41])
  | .bin s a b => 40 :: (a.text ++ 32 :: (s ++ 32 :: (b.text ++ [41])))
def Tree.deep : Tree → Nat
  | .leaf _ _ => 0
  | .asked _ _ => 0
  | .un _ t => t.deep + 1
  | .bin _ a b => max a.deep b.deep + 1
def unaries : List (List Nat) := [[110, 101, 103], [112, 111, 115], [97, 98, 115], [105, 110, 118, 101, 114, 116]]
def binaries : List (List Nat) := [[43], [45], [42], [47, 47], [38], [124], [94], [60, 60], [62, 62]]
/-- a label, a request -/
structure IsWord (w : List Nat) : Prop where
  ne : w ≠ []
  le : w.length ≤ 8
  sm : ∀ c ∈ w, c ∈ smalls
structure IsClass (n : List Nat) : Prop where
  ex : ∃ c r, n = c :: r ∧ c ∈ capitals ∧ r.length ≤ 7 ∧ ∀ x ∈ r, x ∈ smalls
def Tree.ok : Tree → Prop
  | .leaf l n => IsWord l ∧ IsClass n
  | .asked w n => IsWord w ∧ w ∉ unaries ∧ IsClass n
  | .un s t => s ∈ unaries ∧ t.ok
  | .bin s a b => s ∈ binaries ∧ a.ok ∧ b.ok
theorem nSteps_done (s : List Nat) (k : Nat) : nSteps [.done s k] = 1 := rfl
theorem Tree.deep_le : ∀ t : Tree, t.deep ≤ nSteps t.rows
  | .leaf _ _ => by simp [Tree.deep]
  | .asked _ _ => by simp [Tree.deep]
  | .un s t => by
    have := t.deep_le
    simp only [Tree.deep, Tree.rows, nSteps_app, nSteps_done]
    omega
  | .bin s a b => by
    have h1 := a.deep_le
    have h2 := b.deep_le
    simp only [Tree.deep, Tree.rows, nSteps_app, nSteps_done]
    omega
theorem IsClass.len {n : List Nat} (h : IsClass n) : n.length ≤ 8 := by
  obtain ⟨c, r, rfl, _, h, _⟩ := h.ex
  simp; omega
theorem un_len : ∀ s ∈ unaries, s.length ≤ 6 := by decide
theorem bin_len : ∀ s ∈ binaries, s.length ≤ 2 := by decide
theorem Tree.text_len : ∀ t : Tree, t.ok → t.text.length ≤ 17 * t.rows.length
  | .leaf l n, h => by
    have h1 := h.1.le
    have h2 := h.2.len
    simp [Tree.text, Tree.rows]; omega
  | .asked w n, h => by
    have h1 := h.1.le
    have h2 := h.2.2.len
    simp [Tree.text, Tree.rows]; omega
  | .un s t, h => by
    have h1 := un_len s h.1
    have h2 := t.text_len h.2
    simp [Tree.text, Tree.rows]; omega
  | .bin s a b, h => by
    have h1 := bin_len s h.1
    have h2 := a.text_len h.2.1
    have h3 := b.text_len h.2.2
    simp [Tree.text, Tree.rows]; omega
theorem Tree.rows_ne (t : Tree) : t.rows ≠ [] := by cases t <;> simp [Tree.rows]
theorem Tree.rows_pos (t : Tree) : 0 < t.rows.length := List.length_pos_iff.mpr t.rows_ne

/-! ### the reader's machine -/
structure RS where
  i : Nat
  rest : List Nat
  ns : List (List Nat × Nat)
  rows : List Row
def word : Nat → List Nat → List Nat
  | 0, _ => []
  | _ + 1, [] => []
  | n + 1, c :: r => if c ∈ smalls then c :: word n r else []
def RS.go (st : RS) (n : Nat) : RS := { st with i := st.i + n, rest := st.rest.drop n }
def mSkip (l : List Nat) (st : RS) : Except Nat RS := match st.rest with
  | c :: _ => if c ∈ l then .ok (st.go 1) else .error st.i
  | [] => .error st.i
def mLetters (n : Nat) (st : RS) : List Nat × RS := (word n st.rest, st.go (word n st.rest).length)
def mClass (st : RS) : Except Nat (List Nat × RS) := match mSkip capitals st with
  | .error i => .error i
  | .ok st1 => .ok (st.rest.take (1 + (word 7 st1.rest).length), (mLetters 7 st1).2)
def mRequest (st : RS) : Except Nat RS := match mClass st with
  | .error i => .error i
  | .ok (n, st1) => match mSkip [46] st1 with
    | .error i => .error i
    | .ok st2 => if (mLetters 8 st2).1 = [] ∨ (mLetters 8 st2).1 ∈ unaries then .error (mLetters 8 st2).2.i else .ok { (mLetters 8 st2).2 with rows := st2.rows ++ [.asked (mLetters 8 st2).1 n] }
def mGoIn (s : List Nat) (k : Nat) (st : RS) : Except Nat RS := if st.ns.length ≥ 100 then .error st.i else .ok { st.go 1 with ns := st.ns ++ [(s, k)] }
def mLeaf (w : List Nat) (st : RS) : Except Nat RS := match mSkip [58] st with
  | .error i => .error i
  | .ok st1 => match mClass st1 with
    | .error i => .error i
    | .ok (n, st2) => .ok { st2 with rows := st2.rows ++ [.leaf w n] }
def mTrue (x : Except Nat RS) : Except Nat (Bool × RS) := match x with
  | .error i => .error i
  | .ok s => .ok (true, s)
def mFalse (x : Except Nat RS) : Except Nat (Bool × RS) := match x with
  | .error i => .error i
  | .ok s => .ok (false, s)
def mOpen (st : RS) : Except Nat (Bool × RS) := match st.rest with
  | [] => .error st.i
  | c :: _ => if c = 40 then mTrue (mGoIn [] 2 st) else if c ∈ capitals then mFalse (mRequest st) else
    if (mLetters 8 st).1 = [] then .error st.i else
    if (mLetters 8 st).1 ∈ unaries then match (mLetters 8 st).2.rest with
      | [] => .error (mLetters 8 st).2.i
      | c' :: _ => if c' = 40 then mTrue (mGoIn (mLetters 8 st).1 1 (mLetters 8 st).2) else mFalse (mLeaf (mLetters 8 st).1 (mLetters 8 st).2)
    else mFalse (mLeaf (mLetters 8 st).1 (mLetters 8 st).2)
def firsts : List Nat := [43, 45, 42, 47, 38, 124, 94, 60, 62]
def twos : List Nat := [47, 60, 62]
/-- the sign between two operands: its codes -/
def mSign (st : RS) : Except Nat (List Nat × RS) := match mSkip [32] st with
  | .error i => .error i
  | .ok st1 => match st1.rest with
    | [] => .error st1.i
    | c :: _ => match mSkip firsts st1 with
      | .error i => .error i
      | .ok st2 => if c ∈ twos then match mSkip [c] st2 with
          | .error i => .error i
          | .ok st3 => match mSkip [32] st3 with
            | .error i => .error i
            | .ok st4 => .ok ([c, c], st4)
        else match mSkip [32] st2 with
          | .error i => .error i
          | .ok st4 => .ok ([c], st4)
inductive Big : Bool → RS → Except Nat (List Row) → Prop
  | openBad {st i} : mOpen st = .error i → Big true st (.error i)
  | openMore {st st' r} : mOpen st = .ok (true, st') → Big true st' r → Big true st r
  | openStop {st st' r} : mOpen st = .ok (false, st') → Big false st' r → Big true st r
  | closeBad {st ns s k i} : st.ns = ns ++ [(s, k)] → s ≠ [] → mSkip [41] st = .error i → Big false st (.error i)
  | closeMore {st ns s k st1 r} : st.ns = ns ++ [(s, k)] → s ≠ [] → mSkip [41] st = .ok st1 → Big false { st1 with ns := ns, rows := st1.rows ++ [.done s k] } r → Big false st r
  | fin {st} : st.ns = [] → st.rest = [] → Big false st (.ok st.rows)
  | finBad {st} : st.ns = [] → st.rest ≠ [] → Big false st (.error st.i)
  | signBad {st ns k i} : st.ns = ns ++ [([], k)] → mSign st = .error i → Big false st (.error i)
  | sign {st ns k s st' r} : st.ns = ns ++ [([], k)] → mSign st = .ok (s, st') → Big true { st' with ns := ns ++ [(s, 2)] } r → Big false st r
def start (t : List Nat) : RS := ⟨0, t, [], []⟩

/-! ### right texts -/
theorem word_app {n : Nat} {w s : List Nat} (h : ∀ c ∈ w, c ∈ smalls) (hl : w.length ≤ n) (hs : w.length = n ∨ ∀ c r, s = c :: r → c ∉ smalls) : word n (w ++ s) = w := by
  induction w generalizing n with
  | nil =>
    cases n with
    | zero => rfl
    | succ n =>
      rcases hs with hs | hs
      · simp at hs
      · cases s with
        | nil => rfl
        | cons c r => simp [word, hs c r rfl]
  | cons c w ih =>
    cases n with
    | zero => simp at hl
    | succ n =>
      have h1 : c ∈ smalls := h c (by simp)
      simp only [List.cons_append, word, if_pos h1]
      rw [ih (fun x hx => h x (by simp [hx])) (by simpa using hl) (by rcases hs with hs | hs; exact .inl (by simpa using hs); exact .inr hs)]
/-- what may follow an expression -/
def Next (s : List Nat) : Prop := ∀ c r, s = c :: r → c ∉ smalls
theorem cap_small : ∀ c ∈ capitals, c ∉ smalls := by decide
theorem mSkip_ok {l : List Nat} {st : RS} {c : Nat} {r : List Nat} (h : st.rest = c :: r) (hc : c ∈ l) : mSkip l st = .ok { st with i := st.i + 1, rest := r } := by
  unfold mSkip RS.go
  rw [h]
  simp [hc]
theorem mClass_ok {st : RS} {n s : List Nat} (h : st.rest = n ++ s) (hn : IsClass n) (hs : Next s) : mClass st = .ok (n, { st with i := st.i + n.length, rest := s }) := by
  obtain ⟨c, r, rfl, hc, hr, hsm⟩ := hn.ex
  have e : mSkip capitals st = .ok { st with i := st.i + 1, rest := r ++ s } := mSkip_ok (by simpa using h) hc
  have ew : word 7 (r ++ s) = r := word_app hsm hr (.inr hs)
  unfold mClass
  rw [e]
  simp only [mLetters, RS.go, ew, h]
  have e1 : ((c :: r) ++ s).take (1 + r.length) = c :: r := by
    rw [show 1 + r.length = (c :: r).length by simp; omega, List.take_left]
  have e2 : (r ++ s).drop r.length = s := List.drop_left
  have e3 : st.i + 1 + r.length = st.i + (c :: r).length := by simp; omega
  rw [e1, e2, e3]
theorem Row.eqi {st : RS} {i : Nat} {r : List Nat} {x : List Row} (h1 : st.i = i) : ({ st with i := st.i, rest := r, rows := x } : RS) = { st with i := i, rest := r, rows := x } := by rw [h1]
theorem mLeaf_ok {st : RS} {w n s : List Nat} (h : st.rest = 58 :: (n ++ s)) (hn : IsClass n) (hs : Next s) : mLeaf w st = .ok { st with i := st.i + 1 + n.length, rest := s, rows := st.rows ++ [.leaf w n] } := by
  unfold mLeaf
  rw [mSkip_ok h (by simp)]
  simp only
  rw [mClass_ok (n := n) (s := s) rfl hn hs]
theorem unary_not : ∀ s ∈ unaries, s ≠ [] ∧ s.length ≤ 6 ∧ (∀ c ∈ s, c ∈ smalls) := by decide
theorem head_small : ∀ c ∈ smalls, c ≠ 40 ∧ c ∉ capitals := by decide
theorem cap_not40 : ∀ c ∈ capitals, c ≠ 40 := by decide
theorem mOpen_leaf {st : RS} {l n s : List Nat} (h : st.rest = l ++ 58 :: (n ++ s)) (hl : IsWord l) (hn : IsClass n) (hs : Next s) :
    mOpen st = .ok (false, { st with i := st.i + (l ++ 58 :: n).length, rest := s, rows := st.rows ++ [.leaf l n] }) := by
  obtain ⟨c, r, rfl⟩ := List.exists_cons_of_ne_nil hl.ne
  have hc := hl.sm c (by simp)
  have hc2 := head_small c hc
  have ew : word 8 st.rest = c :: r := by
    rw [h]
    exact word_app hl.sm hl.le (.inr (by intro x y e; cases e; decide))
  have e1 : (mLetters 8 st).1 = c :: r := ew
  have e2 : (mLetters 8 st).2 = { st with i := st.i + (c :: r).length, rest := 58 :: (n ++ s) } := by
    unfold mLetters RS.go
    rw [ew, h]
    simp
  have e3 : mLeaf (c :: r) (mLetters 8 st).2 = .ok { st with i := st.i + ((c :: r) ++ 58 :: n).length, rest := s, rows := st.rows ++ [.leaf (c :: r) n] } := by
    rw [e2, mLeaf_ok (n := n) (s := s) rfl hn hs]
    simp
    omega
  unfold mOpen
  rw [show st.rest = c :: (r ++ 58 :: (n ++ s)) by rw [h]; rfl]
  simp only [if_neg hc2.1, if_neg hc2.2, e1, if_neg (List.cons_ne_nil c r)]
  have e4 : (mLetters 8 st).2.rest = 58 :: (n ++ s) := by rw [e2]
  split
  · rw [e4]
    simp only [show ¬ (58 : Nat) = 40 by decide, if_false]
    rw [e3]
    rfl
  · rw [e3]
    rfl
theorem mOpen_asked {st : RS} {w n s : List Nat} (h : st.rest = n ++ 46 :: (w ++ s)) (hw : IsWord w) (hu : w ∉ unaries) (hn : IsClass n) (hs : Next s) :
    mOpen st = .ok (false, { st with i := st.i + (n ++ 46 :: w).length, rest := s, rows := st.rows ++ [.asked w n] }) := by
  have e1 := mClass_ok (n := n) (s := 46 :: (w ++ s)) h hn (by intro x y e; cases e; decide)
  obtain ⟨c, r, rfl, hc, hr, hsm⟩ := hn.ex
  have ew : word 8 (w ++ s) = w := word_app hw.sm hw.le (.inr hs)
  have e2 : mRequest st = .ok { st with i := st.i + ((c :: r) ++ 46 :: w).length, rest := s, rows := st.rows ++ [.asked w (c :: r)] } := by
    unfold mRequest
    rw [e1]
    simp only
    rw [mSkip_ok (l := [46]) (c := 46) (r := w ++ s) rfl (by simp)]
    simp only [mLetters, ew, RS.go]
    rw [if_neg (by rintro (z | z); exact hw.ne z; exact hu z)]
    simp
    omega
  unfold mOpen
  rw [show st.rest = c :: (r ++ 46 :: (w ++ s)) by rw [h]; rfl]
  simp only [if_neg (cap_not40 c hc), if_pos hc]
  rw [e2]
  rfl
theorem mOpen_un {st : RS} {u s : List Nat} (h : st.rest = u ++ 40 :: s) (hu : u ∈ unaries) (hn : st.ns.length < 100) :
    mOpen st = .ok (true, { st with i := st.i + u.length + 1, rest := s, ns := st.ns ++ [(u, 1)] }) := by
  obtain ⟨h1, h2, h3⟩ := unary_not u hu
  obtain ⟨c, r, rfl⟩ := List.exists_cons_of_ne_nil h1
  have hc2 := head_small c (h3 c (by simp))
  have ew : word 8 st.rest = c :: r := by
    rw [h]
    exact word_app h3 (by omega) (.inr (by intro x y e; cases e; decide))
  have e1 : (mLetters 8 st).1 = c :: r := ew
  have e2 : (mLetters 8 st).2 = { st with i := st.i + (c :: r).length, rest := 40 :: s } := by
    unfold mLetters RS.go
    rw [ew, h]
    simp
  unfold mOpen
  rw [show st.rest = c :: (r ++ 40 :: s) by rw [h]; rfl]
  simp only [if_neg hc2.1, if_neg hc2.2, e1, if_neg (List.cons_ne_nil c r), if_pos hu]
  rw [e2]
  simp only [if_true]
  unfold mGoIn mTrue RS.go
  rw [if_neg (show ¬ st.ns.length ≥ 100 by omega)]
  simp
theorem mOpen_bin {st : RS} {s : List Nat} (h : st.rest = 40 :: s) (hn : st.ns.length < 100) :
    mOpen st = .ok (true, { st with i := st.i + 1, rest := s, ns := st.ns ++ [([], 2)] }) := by
  unfold mOpen
  rw [h]
  simp only [if_true]
  unfold mGoIn mTrue RS.go
  rw [if_neg (by omega), h]
  simp
theorem mSign_ok {st : RS} {b s : List Nat} (h : st.rest = 32 :: (b ++ 32 :: s)) (hb : b ∈ binaries) : mSign st = .ok (b, { st with i := st.i + b.length + 2, rest := s }) := by
  unfold binaries at hb
  unfold mSign
  rw [mSkip_ok h (by simp)]
  simp only [List.mem_cons, List.not_mem_nil, or_false] at hb
  rcases hb with rfl | rfl | rfl | rfl | rfl | rfl | rfl | rfl | rfl <;>
    simp [mSkip, RS.go, firsts, twos]
theorem big_tree : ∀ (t : Tree), t.ok → ∀ (st : RS) (s : List Nat) (r : Except Nat (List Row)), st.rest = t.text ++ s → Next s → st.ns.length + t.deep ≤ 100 →
    Big false { st with i := st.i + t.text.length, rest := s, rows := st.rows ++ t.rows } r → Big true st r
  | .leaf l n, h, st, s, r, e, hs, _, k => Big.openStop (mOpen_leaf (by simpa [Tree.text] using e) h.1 h.2 hs) k
  | .asked w n, h, st, s, r, e, hs, _, k => Big.openStop (mOpen_asked (by simpa [Tree.text] using e) h.1 h.2.1 h.2.2 hs) k
  | .un u t, h, st, s, r, e, hs, hd, k => by
    have hd' : st.ns.length + (t.deep + 1) ≤ 100 := hd
    refine Big.openMore (mOpen_un (u := u) (s := t.text ++ 41 :: s) (by rw [e]; simp [Tree.text]) h.1 (by omega)) ?_
    refine big_tree t h.2 _ (41 :: s) r rfl (by intro x y e; cases e; decide) (by simp; omega) ?_
    refine Big.closeMore (ns := st.ns) (s := u) (k := 1) rfl (unary_not u h.1).1 (mSkip_ok (c := 41) (r := s) rfl (by simp)) ?_
    have e2 : st.i + (Tree.un u t).text.length = st.i + u.length + 1 + t.text.length + 1 := by simp [Tree.text]; omega
    have e3 : st.rows ++ (Tree.un u t).rows = st.rows ++ t.rows ++ [.done u 1] := by simp [Tree.rows]
    rw [e2, e3] at k
    exact k
  | .bin b x y, h, st, s, r, e, hs, hd, k => by
    have hd' : st.ns.length + (max x.deep y.deep + 1) ≤ 100 := hd
    refine Big.openMore (mOpen_bin (s := x.text ++ 32 :: (b ++ 32 :: (y.text ++ 41 :: s))) (by rw [e]; simp [Tree.text]) (by omega)) ?_
    refine big_tree x h.2.1 _ (32 :: (b ++ 32 :: (y.text ++ 41 :: s))) r rfl (by intro x y e; cases e; decide) (by simp; omega) ?_
    refine Big.sign (ns := st.ns) (k := 2) rfl (mSign_ok (b := b) (s := y.text ++ 41 :: s) rfl h.1) ?_
    refine big_tree y h.2.2 _ (41 :: s) r rfl (by intro x y e; cases e; decide) (by simp; omega) ?_
    have hb : b ≠ [] := by
      have : ∀ b ∈ binaries, b ≠ [] := by decide
      exact this b h.1
    refine Big.closeMore (ns := st.ns) (s := b) (k := 2) rfl hb (mSkip_ok (c := 41) (r := s) rfl (by simp)) ?_
    have e2 : st.i + (Tree.bin b x y).text.length = st.i + 1 + x.text.length + b.length + 2 + y.text.length + 1 := by simp [Tree.text]; omega
    have e3 : st.rows ++ (Tree.bin b x y).rows = st.rows ++ x.rows ++ y.rows ++ [.done b 2] := by simp [Tree.rows]
    rw [e2, e3] at k
    exact k
/-- a right text is read -/
theorem big_read (t : Tree) (h : t.ok) (hd : t.deep ≤ 100) : Big true (start t.text) (.ok t.rows) := by
  refine big_tree t h _ [] _ (by simp [start]) (by intro c r e; cases e) (by simpa [start] using hd) ?_
  have k := Big.fin (st := { start t.text with i := (start t.text).i + t.text.length, rest := [], rows := (start t.text).rows ++ t.rows }) rfl rfl
  simpa [start] using k
end Ex

namespace Ex
open PySem L2 Hk
/-! ### data that can be compared -/
theorem lay_all : ∀ {ds : List PyData}, (∀ d ∈ ds, PyData.canLay0 d = true) → PyData.canLayAll0 ds = true
  | [], _ => by simp [PyData.canLayAll0]
  | d :: ds, h => by simp [PyData.canLayAll0, h d (by simp), lay_all (ds := ds) fun e he => h e (by simp [he])]
theorem depth_all {n : Nat} : ∀ {ds : List PyData}, (∀ d ∈ ds, PyData.depth d ≤ n) → PyData.depthAll ds ≤ n
  | [], _ => by simp [PyData.depthAll]
  | d :: ds, h => by
    have h1 := h d (by simp)
    have h2 := depth_all (n := n) (ds := ds) fun e he => h e (by simp [he])
    simp only [PyData.depthAll]
    omega
theorem shaped_list {ds : List PyData} (n : Nat) (h1 : ∀ d ∈ ds, PyData.canLay0 d = true) (h2 : ∀ d ∈ ds, PyData.depth d ≤ n) (hn : n ≤ 60) : SeqAt.shaped (.list ds) = true := by
  have h3 := depth_all h2
  show (PyData.canLay0 (.list ds) && decide (PyData.depth (.list ds) ≤ 64)) = true
  rw [Bool.and_eq_true]
  exact ⟨by simp only [PyData.canLay0]; exact lay_all h1, decide_eq_true (by simp only [PyData.depth]; omega)⟩
def strD (l : List Nat) : PyData := .str (tx l)
theorem strD_lay {l : List Nat} (h : okT l) : PyData.canLay0 (strD l) = true := by simp [strD, PyData.canLay0, okT_str h]
theorem strD_depth (l : List Nat) : PyData.depth (strD l) = 0 := by simp [strD, PyData.depth]
theorem strDs_shaped {ls : List (List Nat)} (h : ∀ l ∈ ls, okT l) : SeqAt.shaped (.list (ls.map strD)) = true := by
  refine shaped_list 0 (fun d hd => ?_) (fun d hd => ?_) (by omega)
  · obtain ⟨l, hl, rfl⟩ := List.mem_map.mp hd
    exact strD_lay (h l hl)
  · obtain ⟨l, hl, rfl⟩ := List.mem_map.mp hd
    rw [strD_depth]
    omega
def pairD (p : List Nat × List Nat) : PyData := .tuple [.str (tx p.1), .str (tx p.2)]
def okP (p : List Nat × List Nat) : Prop := okT p.1 ∧ okT p.2
theorem pairD_lay {p : List Nat × List Nat} (h : okP p) : (pairD p).canLay0 = true := by simp [pairD, PyData.canLay0, PyData.canLayAll0, okT_str h.1, okT_str h.2]
theorem pairD_depth (p : List Nat × List Nat) : (pairD p).depth = 1 := by simp [pairD, PyData.depth, PyData.depthAll]
theorem pairD_shaped {p : List Nat × List Nat} (h : okP p) : SeqAt.shaped (pairD p) = true := by
  have e := pairD_depth p
  show ((pairD p).canLay0 && decide ((pairD p).depth ≤ 64)) = true
  rw [Bool.and_eq_true]
  exact ⟨pairD_lay h, decide_eq_true (by omega)⟩
theorem pairDs_shaped {ps : List (List Nat × List Nat)} (h : ∀ p ∈ ps, okP p) : SeqAt.shaped (.list (ps.map pairD)) = true := by
  refine shaped_list 1 (fun d hd => ?_) (fun d hd => ?_) (by omega)
  · obtain ⟨l, hl, rfl⟩ := List.mem_map.mp hd
    exact pairD_lay (h l hl)
  · obtain ⟨l, hl, rfl⟩ := List.mem_map.mp hd
    rw [pairD_depth]
    omega
theorem pairD_eqv (p q : List Nat × List Nat) : PyData.eqv (pairD p) (pairD q) = decide (p = q) := by
  obtain ⟨a, b⟩ := p
  obtain ⟨c, d⟩ := q
  have e : PyData.eqv (pairD (a, b)) (pairD (c, d)) = ((tx a == tx c) && ((tx b == tx d) && true)) := by simp only [pairD, PyData.eqv, PyData.eqvAll]
  rw [e]
  by_cases h1 : a = c
  · by_cases h2 : b = d
    · subst h1 h2
      simp
    · have : ¬ tx b = tx d := fun z => h2 (tx_inj.mp z)
      simp [this, h2]
  · have : ¬ tx a = tx c := fun z => h1 (tx_inj.mp z)
    simp [this, h1]
theorem any_pair {ps : List (List Nat × List Nat)} {p : List Nat × List Nat} : ((ps.map pairD).any fun z => PyData.eqv z (pairD p)) = decide (p ∈ ps) := by
  induction ps with
  | nil => simp
  | cons q ps ih =>
    rw [List.map_cons, List.any_cons, ih, pairD_eqv]
    by_cases h1 : q = p
    · subst h1
      simp
    · have h2 : ¬ p = q := fun z => h1 z.symm
      simp [h1, h2]
def Row.ok : Row → Prop
  | .leaf l n => okT l ∧ okT n
  | .asked wd n => okT wd ∧ okT n
  | .done s _ => okT s
theorem Row.ok_sign {r : Row} (h : r.ok) : okT r.sign := by
  cases r with
  | leaf l n => exact h.1
  | asked l n => exact h.1
  | done s k => exact h
theorem signs_ok {rows : List Row} (h : ∀ r ∈ rows, r.ok) : ∀ l ∈ signsOf rows, okT l := by
  intro l hl
  obtain ⟨r, hr, rfl⟩ := List.mem_map.mp hl
  exact Row.ok_sign (h r (List.mem_filter.mp hr).1)
theorem leaves_succ {rows : List Row} {i : Nat} {r : Row} (h : rows[i]? = some r) : leavesOf (rows.take (i + 1)) = leavesAdd (leavesOf (rows.take i)) r := by
  unfold leavesOf
  rw [List.take_add_one, h, List.foldl_append]
  rfl
theorem leavesAdd_ok {acc : List (List Nat × List Nat)} {r : Row} (h : ∀ p ∈ acc, okP p) (hr : r.ok) : ∀ p ∈ leavesAdd acc r, okP p := by
  cases r with
  | leaf l n =>
    show ∀ p ∈ (if (l, n) ∈ acc then acc else acc ++ [(l, n)]), okP p
    by_cases hm : (l, n) ∈ acc
    · rw [if_pos hm]
      exact h
    · rw [if_neg hm]
      intro p hp
      rcases List.mem_append.mp hp with q | q
      · exact h p q
      · rw [List.mem_singleton.mp q]
        exact hr
  | asked wd n => exact h
  | done s k => exact h
theorem leavesAdd_len {acc : List (List Nat × List Nat)} {r : Row} : (leavesAdd acc r).length ≤ acc.length + 1 := by
  cases r with
  | leaf l n =>
    show (if (l, n) ∈ acc then acc else acc ++ [(l, n)]).length ≤ _
    by_cases hm : (l, n) ∈ acc
    · rw [if_pos hm]
      omega
    · rw [if_neg hm]
      simp
  | asked wd n => simp [leavesAdd]
  | done s k => simp [leavesAdd]
theorem leaves_ok {rows : List Row} (h : ∀ r ∈ rows, r.ok) : ∀ p ∈ leavesOf rows, okP p := by
  unfold leavesOf
  have : ∀ (rows : List Row) acc, (∀ r ∈ rows, r.ok) → (∀ p ∈ acc, okP p) → ∀ p ∈ rows.foldl leavesAdd acc, okP p := by
    intro rows
    induction rows with
    | nil => intro acc _ h; exact h
    | cons r rows ih =>
      intro acc h1 h2
      exact ih _ (fun x hx => h1 x (by simp [hx])) (leavesAdd_ok h2 (h1 r (by simp)))
  exact this rows [] h (by simp)
theorem small_lt : ∀ c ∈ smalls, c < 128 := by decide
theorem cap_lt : ∀ c ∈ capitals, c < 128 := by decide
theorem IsWord.okT {w : List Nat} (h : IsWord w) : okT w := fun c hc => small_lt c (h.sm c hc)
theorem IsClass.okT {w : List Nat} (h : IsClass w) : Hk.okT w := by
  obtain ⟨c, r, rfl, hc, _, hs⟩ := h.ex
  intro x hx
  rcases List.mem_cons.mp hx with rfl | hx
  · exact cap_lt _ hc
  · exact small_lt _ (hs x hx)
theorem un_okT : ∀ s ∈ unaries, okT s := by unfold okT; decide
theorem bin_okT : ∀ s ∈ binaries, okT s := by unfold okT; decide
theorem Tree.rows_ok : ∀ t : Tree, t.ok → ∀ r ∈ t.rows, r.ok
  | .leaf l n, h, r, hr => by
    rw [List.mem_singleton.mp hr]
    exact ⟨h.1.okT, h.2.okT⟩
  | .asked l n, h, r, hr => by
    rw [List.mem_singleton.mp hr]
    exact ⟨h.1.okT, h.2.2.okT⟩
  | .un s t, h, r, hr => by
    rcases List.mem_append.mp hr with hr | hr
    · exact t.rows_ok h.2 r hr
    · rw [List.mem_singleton.mp hr]
      exact un_okT s h.1
  | .bin s x y, h, r, hr => by
    rcases List.mem_append.mp hr with hr | hr
    · rcases List.mem_append.mp hr with hr | hr
      · exact x.rows_ok h.2.1 r hr
      · exact y.rows_ok h.2.2 r hr
    · rw [List.mem_singleton.mp hr]
      exact bin_okT s h.1
end Ex

/-! the drawn words and programs of the laws, plainly -/
namespace Ex
open PySem L2 Hk
/-- item by item -/
structure AllR {α β : Type} (R : α → β → Prop) (xs : List α) (ys : List β) : Prop where
  len : xs.length = ys.length
  at_ : ∀ (i : Nat) x y, xs[i]? = some x → ys[i]? = some y → R x y
section
variable {α β : Type} {R R' : α → β → Prop} {xs : List α} {ys : List β}
theorem AllR.nil : AllR R [] [] := ⟨rfl, fun i x y h => by simp at h⟩
theorem AllR.mono (h : AllR R xs ys) (k : ∀ x y, R x y → R' x y) : AllR R' xs ys := ⟨h.len, fun i x y e1 e2 => k x y (h.at_ i x y e1 e2)⟩
theorem AllR.get (h : AllR R xs ys) {i : Nat} {x : α} (e : xs[i]? = some x) : ∃ y, ys[i]? = some y ∧ R x y := by
  have hi : i < ys.length := by rw [← h.len]; exact (List.getElem?_eq_some_iff.mp e).1
  exact ⟨ys[i], List.getElem?_eq_getElem hi, h.at_ i x _ e (List.getElem?_eq_getElem hi)⟩
theorem AllR.snoc (h : AllR R xs ys) {x : α} {y : β} (k : R x y) : AllR R (xs ++ [x]) (ys ++ [y]) := by
  refine ⟨by simp [h.len], fun i a b e1 e2 => ?_⟩
  by_cases hi : i < xs.length
  · rw [List.getElem?_append_left hi] at e1
    rw [List.getElem?_append_left (by rw [← h.len]; exact hi)] at e2
    exact h.at_ i a b e1 e2
  · have e : i - xs.length = 0 := by
      rw [List.getElem?_append_right (by omega)] at e1
      have := (List.getElem?_eq_some_iff.mp e1).1
      simp at this
      omega
    rw [List.getElem?_append_right (by omega), e] at e1
    rw [List.getElem?_append_right (by have := h.len; omega), ← h.len, e] at e2
    simp at e1 e2
    subst e1 e2
    exact k
theorem AllR.set (h : AllR R xs ys) {i : Nat} {x : α} {y : β} (k : R x y) : AllR R (xs.set i x) (ys.set i y) := by
  refine ⟨by simp [h.len], fun j a b e1 e2 => ?_⟩
  rw [List.getElem?_set] at e1 e2
  by_cases hj : i = j
  · subst hj
    simp only [if_true] at e1 e2
    split at e1
    · split at e2
      · cases e1; cases e2; exact k
      · cases e2
    · cases e1
  · rw [if_neg hj] at e1 e2
    exact h.at_ j a b e1 e2
theorem AllR.erase (h : AllR R xs ys) {i : Nat} : AllR R (xs.eraseIdx i) (ys.eraseIdx i) := by
  refine ⟨by rw [List.length_eraseIdx, List.length_eraseIdx, h.len], fun j a b e1 e2 => ?_⟩
  rw [List.getElem?_eraseIdx] at e1 e2
  split at e1
  · rename_i hj
    rw [if_pos hj] at e2
    exact h.at_ _ a b e1 e2
  · rename_i hj
    rw [if_neg hj] at e2
    exact h.at_ _ a b e1 e2
theorem AllR.app {us : List α} {vs : List β} (h : AllR R xs ys) (h2 : AllR R us vs) : AllR R (xs ++ us) (ys ++ vs) := by
  refine ⟨by simp [h.len, h2.len], fun i a b e1 e2 => ?_⟩
  by_cases hi : i < xs.length
  · rw [List.getElem?_append_left hi] at e1
    rw [List.getElem?_append_left (by rw [← h.len]; exact hi)] at e2
    exact h.at_ i a b e1 e2
  · rw [List.getElem?_append_right (by omega)] at e1
    rw [List.getElem?_append_right (by have := h.len; omega), ← h.len] at e2
    exact h2.at_ _ a b e1 e2
theorem AllR.snoc_inv {y : β} (h : AllR R xs (ys ++ [y])) : ∃ us x, xs = us ++ [x] ∧ AllR R us ys ∧ R x y := by
  have hl := h.len
  simp at hl
  have hne : xs ≠ [] := by intro z; rw [z] at hl; simp at hl
  obtain ⟨us, x, rfl⟩ : ∃ us x, xs = us ++ [x] := ⟨_, _, (List.dropLast_concat_getLast hne).symm⟩
  simp at hl
  refine ⟨us, x, rfl, ⟨hl, fun i a b e1 e2 => ?_⟩, ?_⟩
  · have hi := (List.getElem?_eq_some_iff.mp e2).1
    have hi1 := (List.getElem?_eq_some_iff.mp e1).1
    refine h.at_ i a b ?_ ?_
    · rw [List.getElem?_append_left hi1]
      exact e1
    · rw [List.getElem?_append_left hi]
      exact e2
  · refine h.at_ ys.length _ _ ?_ ?_
    · rw [← hl]
      simp
    · simp
end
/-! ### words -/
def alph : List Nat := [97, 99, 100, 101, 102, 103, 104, 105, 106, 107]
def stems : List Nat := [97, 122, 113, 109]
def sgn (c : Nat) : List Nat := [alph.getD (c / 10) 97, alph.getD (c % 10) 97]
def wordOf (ahead : Bool) (stem : List Nat) (shift k : Nat) : List Nat := if ahead then sgn ((k + shift) % 100) ++ stem else stem ++ sgn ((k + shift) % 100)
def wordsOf (ahead : Bool) (stem : List Nat) (shift n : Nat) : List (List Nat) := (List.range n).map (wordOf ahead stem shift)
def Stem (stem : List Nat) : Prop := stem.length ≤ 6 ∧ ∀ c ∈ stem, c ∈ stems
theorem alph_getD (i : Nat) : alph.getD i 97 ∈ alph := by
  by_cases h : i < alph.length
  · rw [List.getD_eq_getElem?_getD, List.getElem?_eq_getElem h]
    exact List.getElem_mem h
  · rw [List.getD_eq_getElem?_getD, List.getElem?_eq_none (by omega)]
    decide
theorem alph_at {i : Nat} (h : i < 10) : alph[i]? = some (alph.getD i 97) := by
  have h' : i < alph.length := h
  rw [List.getD_eq_getElem?_getD, List.getElem?_eq_getElem h']
  rfl
theorem alph_small : ∀ c ∈ alph, c ∈ smalls := by decide
theorem stems_small : ∀ c ∈ stems, c ∈ smalls := by decide
theorem word_mem {ahead : Bool} {stem : List Nat} {shift k : Nat} (hs : Stem stem) : ∀ c ∈ wordOf ahead stem shift k, c ∈ alph ++ stems := by
  intro c hc
  have h1 : ∀ c ∈ sgn ((k + shift) % 100), c ∈ alph ++ stems := by
    intro c hc
    refine List.mem_append_left _ ?_
    simp [sgn] at hc
    rcases hc with rfl | rfl
    · simpa using alph_getD _
    · simpa using alph_getD _
  have h2 : ∀ c ∈ stem, c ∈ alph ++ stems := fun c hc => List.mem_append_right _ (hs.2 c hc)
  unfold wordOf at hc
  split at hc
  · rcases List.mem_append.mp hc with z | z
    · exact h1 c z
    · exact h2 c z
  · rcases List.mem_append.mp hc with z | z
    · exact h2 c z
    · exact h1 c z
theorem word_len {ahead : Bool} {stem : List Nat} {shift k : Nat} : (wordOf ahead stem shift k).length = stem.length + 2 := by
  unfold wordOf
  split <;> simp [sgn]
theorem word_is {ahead : Bool} {stem : List Nat} {shift k : Nat} (hs : Stem stem) : IsWord (wordOf ahead stem shift k) := by
  have hl := word_len (ahead := ahead) (stem := stem) (shift := shift) (k := k)
  have := hs.1
  refine ⟨fun z => by rw [z] at hl; simp at hl, by omega, fun c hc => ?_⟩
  rcases List.mem_append.mp (word_mem hs c hc) with z | z
  · exact alph_small c z
  · exact stems_small c z
theorem un_other : ∀ u ∈ unaries, ∃ c ∈ u, c ∉ alph ++ stems := by decide
theorem word_un {ahead : Bool} {stem : List Nat} {shift k : Nat} (hs : Stem stem) : wordOf ahead stem shift k ∉ unaries := by
  intro h
  obtain ⟨c, hc, hn⟩ := un_other _ h
  exact hn (word_mem hs c hc)
theorem words_is {ahead : Bool} {stem : List Nat} {shift n : Nat} (hs : Stem stem) : ∀ w ∈ wordsOf ahead stem shift n, IsWord w ∧ w ∉ unaries := by
  intro w hw
  obtain ⟨k, _, rfl⟩ := List.mem_map.mp hw
  exact ⟨word_is hs, word_un hs⟩
theorem words_len (ahead : Bool) (stem : List Nat) (shift n : Nat) : (wordsOf ahead stem shift n).length = n := by simp [wordsOf]
/-! ### operations -/
/-- a sign and its arity -/
structure IsOp (o : List Nat × Nat) : Prop where
  two : o.2 = 2 → o.1 ∈ binaries
  one : o.2 = 1 → o.1 ∈ unaries
  zero : o.2 = 0 → IsWord o.1 ∧ o.1 ∉ unaries
def ofArity (n : Nat) (ops : List (List Nat × Nat)) : List (List Nat) := (ops.filter fun o => decide (o.2 = n)).map (·.1)
theorem mem_arity {n : Nat} {ops : List (List Nat × Nat)} {s : List Nat} (h : s ∈ ofArity n ops) : ∃ o ∈ ops, o.1 = s ∧ o.2 = n := by
  obtain ⟨o, ho, rfl⟩ := List.mem_map.mp h
  have := List.mem_filter.mp ho
  exact ⟨o, this.1, rfl, by simpa using this.2⟩
/-! ### the stack machine that writes and builds -/
abbrev Stk := List (List Nat × List Row)
def estep (st : Stk) : Row → Option Stk
  | .leaf l n => some (st ++ [(l ++ 58 :: n, [.leaf l n])])
  | .asked w n => some (st ++ [(n ++ 46 :: w, [.asked w n])])
  | .done s 1 => match st.getLast? with
    | some x => some (st.dropLast ++ [(s ++ 40 :: (x.1 ++ [41]), x.2 ++ [.done s 1])])
    | none => none
  | .done s 2 => match st.getLast?, st.dropLast.getLast? with
    | some y, some x => some (st.dropLast.dropLast ++ [(40 :: (x.1 ++ 32 :: (s ++ 32 :: (y.1 ++ [41]))), x.2 ++ y.2 ++ [.done s 2])])
    | _, _ => none
  | .done _ _ => none
def erun : Stk → List Row → Option Stk
  | st, [] => some st
  | st, r :: rs => match estep st r with
    | some st' => erun st' rs
    | none => none
theorem erun_app (st : Stk) (xs ys : List Row) : erun st (xs ++ ys) = match erun st xs with | some st' => erun st' ys | none => none := by
  induction xs generalizing st with
  | nil => rfl
  | cons r xs ih =>
    show (match estep st r with | some st' => erun st' (xs ++ ys) | none => none) = _
    simp only [erun]
    cases estep st r with
    | none => rfl
    | some st' => exact ih st'
theorem erun_tree : ∀ (t : Tree) (st : Stk), erun st t.rows = some (st ++ [(t.text, t.rows)])
  | .leaf l n, st => rfl
  | .asked w n, st => rfl
  | .un s t, st => by
    show erun st (t.rows ++ [.done s 1]) = _
    rw [erun_app, erun_tree t st]
    simp [erun, estep, Tree.text, Tree.rows]
  | .bin s x y, st => by
    show erun st (x.rows ++ y.rows ++ [.done s 2]) = _
    rw [erun_app, erun_app, erun_tree x st]
    simp only
    rw [erun_tree y]
    simp [erun, estep, Tree.text, Tree.rows]
/-- the rows on the stack are those that have been seen -/
def flat (st : Stk) : List Row := (st.map (·.2)).flatten
def slen (st : Stk) : Nat := (st.map (·.1.length)).sum
theorem flat_app (a b : Stk) : flat (a ++ b) = flat a ++ flat b := by simp [flat]
theorem slen_app (a b : Stk) : slen (a ++ b) = slen a + slen b := by simp [slen]
theorem stk_snoc {st : Stk} {x : List Nat × List Row} (h : st.getLast? = some x) : st = st.dropLast ++ [x] := by
  have hne : st ≠ [] := by intro z; rw [z] at h; cases h
  rw [List.getLast?_eq_some_getLast hne] at h
  cases h
  exact (List.dropLast_concat_getLast hne).symm
/-- rows whose words are short -/
def Row.small : Row → Prop
  | .leaf l n => l.length ≤ 8 ∧ n.length ≤ 8
  | .asked w n => w.length ≤ 8 ∧ n.length ≤ 8
  | .done s k => s.length ≤ 8 ∧ (k = 1 ∨ k = 2)
theorem estep_inv {st st' : Stk} {r : Row} (h : estep st r = some st') (hr : r.small) : flat st' = flat st ++ [r] ∧ slen st' ≤ slen st + 17 := by
  unfold estep at h
  split at h
  · cases h
    obtain ⟨h1, h2⟩ := hr
    exact ⟨by simp [flat], by simp [slen]; omega⟩
  · cases h
    obtain ⟨h1, h2⟩ := hr
    exact ⟨by simp [flat], by simp [slen]; omega⟩
  · split at h
    · rename_i x e
      cases h
      have es := stk_snoc e
      obtain ⟨h1, _⟩ := hr
      refine ⟨?_, ?_⟩
      · conv => rhs; rw [es]
        simp [flat]
      · have e2 : slen st = slen st.dropLast + x.1.length := by
          conv => lhs; rw [es]
          simp [slen]
        rw [slen_app, e2]
        simp [slen]
        omega
    · cases h
  · split at h
    · rename_i y x e1 e2
      cases h
      have es := stk_snoc e1
      have es2 := stk_snoc e2
      obtain ⟨h1, _⟩ := hr
      have ef : st = st.dropLast.dropLast ++ [x] ++ [y] := by rw [← es2]; exact es
      refine ⟨?_, ?_⟩
      · conv => rhs; rw [ef]
        simp [flat]
      · have e3 : slen st = slen st.dropLast.dropLast + x.1.length + y.1.length := by
          conv => lhs; rw [ef]
          simp [slen]
          omega
        rw [slen_app, e3]
        simp [slen]
        omega
    · cases h
  · cases h
theorem Tree.rows_small : ∀ t : Tree, t.ok → ∀ r ∈ t.rows, r.small
  | .leaf l n, h, r, hr => by
    rw [List.mem_singleton.mp hr]
    exact ⟨h.1.le, h.2.len⟩
  | .asked l n, h, r, hr => by
    rw [List.mem_singleton.mp hr]
    exact ⟨h.1.le, h.2.2.len⟩
  | .un s t, h, r, hr => by
    rcases List.mem_append.mp hr with hr | hr
    · exact t.rows_small h.2 r hr
    · rw [List.mem_singleton.mp hr]
      have := un_len s h.1
      exact ⟨by omega, .inl rfl⟩
  | .bin s x y, h, r, hr => by
    rcases List.mem_append.mp hr with hr | hr
    · rcases List.mem_append.mp hr with hr | hr
      · exact x.rows_small h.2.1 r hr
      · exact y.rows_small h.2.2 r hr
    · rw [List.mem_singleton.mp hr]
      have := bin_len s h.1
      exact ⟨by omega, .inr rfl⟩
/-- the signs of rows: done rows have unary or binary signs -/
def Row.sgn : Row → Prop
  | .done s k => (k = 1 ∧ s ∈ unaries) ∨ (k = 2 ∧ s ∈ binaries)
  | _ => True
theorem Tree.rows_sgn : ∀ t : Tree, t.ok → ∀ r ∈ t.rows, r.sgn
  | .leaf l n, h, r, hr => by rw [List.mem_singleton.mp hr]; trivial
  | .asked l n, h, r, hr => by rw [List.mem_singleton.mp hr]; trivial
  | .un s t, h, r, hr => by
    rcases List.mem_append.mp hr with hr | hr
    · exact t.rows_sgn h.2 r hr
    · rw [List.mem_singleton.mp hr]; exact .inl ⟨rfl, h.1⟩
  | .bin s x y, h, r, hr => by
    rcases List.mem_append.mp hr with hr | hr
    · rcases List.mem_append.mp hr with hr | hr
      · exact x.rows_sgn h.2.1 r hr
      · exact y.rows_sgn h.2.2 r hr
    · rw [List.mem_singleton.mp hr]; exact .inr ⟨rfl, h.1⟩
end Ex

/-! A comprehension whose turns write to things that are one's own. -/
namespace Hk
open PySem PySem.Spec PyProof.Rows L2
section
variable {K : PySem.W.Frag} {σ : L2.St} {F H : Hp} {g : TG} {tt : TT} {te : TE} {vs : List Nat} {Q : VK} {S : List Addr}
theorem lcH {J : It} {n : Nat} {X : Nat → V → Prop} (A : Nat → Hp → Hp → List V → Prop) (fh : Same F H) (hz : n ≤ 100000)
    (hst : ∀ H', Same F H' → J.stop n H') (hgo : ∀ i H', Same F H' → i < n → J.go i H') (hy : ∀ i H1 x H2, i < n → Same F H1 → J.yld i H1 x H2 → H2 = H1 ∧ X i x)
    (a0 : A 0 F H []) (aup : ∀ i F' H' acc D o, A i F' H' acc → H D = none → F' D = none → A i F' (upd H' D o) acc) (al : ∀ i F' H' acc, A i F' H' acc → acc.length ≤ i)
    (turn : ∀ i x F1 H1 acc, i < n → X i x → Grow S F H F1 H1 → A i F1 H1 acc → ∀ (Done : Hp → Prop) (Kept : VK), (∀ F2 H2, Grow S F1 H1 F2 H2 → A (i + 1) F2 H2 acc → Done H2) →
      (∀ F2 H2 y, Grow S F1 H1 F2 H2 → A (i + 1) F2 H2 (acc ++ [y]) → Kept y H2) →
      g x (wipe σ vs) H1 fun σ2 H2 => wipe σ2 vs = wipe σ vs ∧ tt σ2 H2 fun b H3 => if b = true then te σ2 H3 Kept else Done H3)
    (hS : ∀ D, H D = none → D ∉ S)
    (q : ∀ F' H' D acc, Grow S F H F' H' → H D = none → Hold F' H' D (.lst acc) → A n F' H' acc → Q (.ref D) H') : LcK J g tt te vs σ H Q := by
  intro D hD
  have fD : F D = none := fh.free hD
  have nD : D ∉ S := hS D hD
  refine ⟨fun i m H' => m = n - i ∧ i ≤ n ∧ ∃ F' acc, Grow S F H F' H' ∧ Hold F' H' D (.lst acc) ∧ A i F' H' acc, ⟨n, by simp, Nat.zero_le _, F, [], (Grow.refl fh).newO hD, Hold.new fh hD, aup _ _ _ _ _ _ a0 hD fD⟩, ?_⟩
  rintro i m H1 ⟨rfl, hi, F1, acc, g1, d1, a1⟩
  have s1 : Same F H1 := g1.ff.trans g1.fh
  by_cases hlt : i < n
  · refine .inr ⟨hgo i H1 s1 hlt, fun H' => i + 1 ≤ n ∧ ∃ F' acc, Grow S F H F' H' ∧ Hold F' H' D (.lst acc) ∧ A (i + 1) F' H' acc, fun H' p' => ⟨n - (i + 1), by omega, rfl, p'⟩, fun x H2 y => ?_⟩
    obtain ⟨rfl, hx⟩ := hy i H1 x H2 hlt s1 y
    refine turn i x F1 H2 acc hlt hx g1 a1 _ _ (fun F3 H3 g3 a3 => ?_) (fun F3 H3 y g3 a3 => ?_)
    · exact ⟨hlt, F3, acc, g1.trans g3, d1.go g3 nD, a3⟩
    · have d3 := d1.go g3 nD
      refine ⟨acc, d3.h, ?_, hlt, F3, acc ++ [y], (g1.trans g3).mut d3.f (.inr hD), d3.put, aup _ _ _ _ _ _ a3 hD d3.f⟩
      have := al _ _ _ _ a1
      rw [sizeLine_eq]
      omega
  · have e : i = n := by omega
    subst e
    exact .inl ⟨hst H1 s1, q F1 H1 D acc g1 hD d1 a1⟩
/-- over range(n) -/
theorem lcHR {n : Nat} (A : Nat → Hp → Hp → List V → Prop) (fh : Same F H) (hz : n ≤ 100000)
    (a0 : A 0 F H []) (aup : ∀ i F' H' acc D o, A i F' H' acc → H D = none → F' D = none → A i F' (upd H' D o) acc) (al : ∀ i F' H' acc, A i F' H' acc → acc.length ≤ i)
    (turn : ∀ (i : Nat) F1 H1 acc, i < n → Grow S F H F1 H1 → A i F1 H1 acc → ∀ (Done : Hp → Prop) (Kept : VK), (∀ F2 H2, Grow S F1 H1 F2 H2 → A (i + 1) F2 H2 acc → Done H2) →
      (∀ F2 H2 y, Grow S F1 H1 F2 H2 → A (i + 1) F2 H2 (acc ++ [y]) → Kept y H2) →
      g (.int (i : Int)) (wipe σ vs) H1 fun σ2 H2 => wipe σ2 vs = wipe σ vs ∧ tt σ2 H2 fun b H3 => if b = true then te σ2 H3 Kept else Done H3)
    (hS : ∀ D, H D = none → D ∉ S)
    (q : ∀ F' H' D acc, Grow S F H F' H' → H D = none → Hold F' H' D (.lst acc) → A n F' H' acc → Q (.ref D) H') : LcK (Itr 0 n) g tt te vs σ H Q :=
  lcH (X := fun i x => x = .int (i : Int)) A fh hz (fun H' s => Nat.le_refl _) (fun i H' s hi => hi)
    (fun i H1 x H2 hi s1 y => rng_yld y) a0 aup al
    (fun i x F1 H1 acc hi hx' g1 a1 Done Kept hd hk => by subst hx'; exact turn i F1 H1 acc hi g1 a1 Done Kept hd hk) hS q
end
theorem new_rep {F H : Hp} {Q : VK} {r : Addr} {xs : List V} {k : Int} (fh : Same F H) (h : H r = some (.lst xs)) (h1 : 0 ≤ k) (h2 : k < 1000) (hz : xs.length * k.toNat ≤ 100000) (q : ∀ F' H' p, Grow [] F H F' H' → H p = none → F' p = some (.lst (List.replicate k.toNat xs).flatten) → Q (.ref p) H') : rRep (.ref r) (.int k) H Q :=
  ⟨r, k, xs, rfl, rfl, h, by omega, by omega, sz_of hz, fun p hp => q _ _ p ((Grow.refl fh).new hp) hp upd_same⟩
theorem rd_intB {H : Hp} {Q : VK} {b : Bool} (q : Q (.int (if b then 1 else 0)) H) : rInt1 [.bl b] H Q := .inr ⟨b, rfl, q⟩
section
variable {X : Cx} {K : PySem.W.Frag} {o e : Expr} {es : List Expr} {to : TE} {t : TA} {name : Str} {apos cpos : Pos} {T id : String} {r : V → List V → Hp → VK → Prop}
theorem pe_bm0K (pa : PlainAttrs T) (slot : Slot T name id) (hty : typeOf (.builtin id) = pure (.type "method_descriptor")) (hm : MtR X id r) (ho : PE X o to)
    (hK : X.K = K := by rfl) (hbase : attributeBase o name X.env (eval o X.env) = eval o X.env := by rfl) (hline : (apos.endLine == cpos.line) = true := by rfl) : PE X (.Call (.Attribute o name apos) [] [] cpos) (tBM0 K T r to) := hK ▸ pe_bm0 pa slot hty hm ho hbase hline
end
theorem op_notInDK {X : Cx} {K : PySem.W.Frag} (hu : X.A.units + 65 < cLine) (h : X.K = K := by rfl) : OpR X (compareOp .NotIn) (rNotInD K) := h ▸ op_notInD hu
theorem op_inDK {X : Cx} {K : PySem.W.Frag} (hu : X.A.units + 65 < cLine) (h : X.K = K := by rfl) : OpR X (compareOp .In) (rInD K) := h ▸ op_inD hu
end Hk

namespace Ex
open PySem L2 Hk
def top (i : Nat) : Stmt := PySem.Challenge.pw_heirsback_k86_families_made.main.body.getD i (.Pass ⟨0, 0, 0, 0⟩)
abbrev s_BadFamily_init : Stmt := inClass (top 4) 0
theorem sc_BadFamily_init : FnScope ["self", "word"] ["self", "word"] (defScope s_BadFamily_init) := ⟨rfl, rfl, rfl, by decide +kernel, rfl, by decide +kernel, by decide +kernel⟩
abbrev s_Family_init : Stmt := inClass (top 33) 1
theorem sc_Family_init : FnScope ["self", "words", "word", "licence"] ["self", "words"] (defScope s_Family_init) := ⟨rfl, rfl, rfl, by decide +kernel, rfl, by decide +kernel, by decide +kernel⟩
abbrev s_Family_of : Stmt := inClass (top 33) 2
theorem sc_Family_of : FnScope ["cls", "words"] ["cls", "words"] (defScope s_Family_of) := ⟨rfl, rfl, rfl, by decide +kernel, rfl, by decide +kernel, by decide +kernel⟩
abbrev s_Family_contains : Stmt := inClass (top 33) 8
theorem sc_Family_contains : FnScope ["self", "x", "word"] ["self", "x"] (defScope s_Family_contains) := ⟨rfl, rfl, rfl, by decide +kernel, rfl, by decide +kernel, by decide +kernel⟩
abbrev s_Family_len : Stmt := inClass (top 33) 10
theorem sc_Family_len : FnScope ["self"] ["self"] (defScope s_Family_len) := ⟨rfl, rfl, rfl, by decide +kernel, rfl, by decide +kernel, by decide +kernel⟩
abbrev s_Family_bool : Stmt := inClass (top 33) 11
theorem sc_Family_bool : FnScope ["self"] ["self"] (defScope s_Family_bool) := ⟨rfl, rfl, rfl, by decide +kernel, rfl, by decide +kernel, by decide +kernel⟩
abbrev s_Family_eq : Stmt := inClass (top 33) 12
theorem sc_Family_eq : FnScope ["self", "other"] ["self", "other"] (defScope s_Family_eq) := ⟨rfl, rfl, rfl, by decide +kernel, rfl, by decide +kernel, by decide +kernel⟩
abbrev s_Family_repr : Stmt := inClass (top 33) 13
theorem sc_Family_repr : FnScope ["self"] ["self"] (defScope s_Family_repr) := ⟨rfl, rfl, rfl, by decide +kernel, rfl, by decide +kernel, by decide +kernel⟩
abbrev s_law_bag : Stmt := top 35
theorem sc_law_bag : FnScope ["_law_script", "_law_at", "_law_cell", "_law_mixed", "_law_k", "_law_each"] ["_law_script", "_law_at"] (defScope s_law_bag) := ⟨rfl, rfl, rfl, by decide +kernel, rfl, by decide +kernel, by decide +kernel⟩
abbrev s_law_take : Stmt := top 36
theorem sc_law_take : FnScope ["_law_bag_here", "_law_many", "_law_digit"] ["_law_bag_here", "_law_many"] (defScope s_law_take) := ⟨rfl, rfl, rfl, by decide +kernel, rfl, by decide +kernel, by decide +kernel⟩
abbrev s_law_of : Stmt := top 37
theorem sc_law_of : FnScope ["_law_bag_here", "_law_some_here"] ["_law_bag_here", "_law_some_here"] (defScope s_law_of) := ⟨rfl, rfl, rfl, by decide +kernel, rfl, by decide +kernel, by decide +kernel⟩
abbrev s_law_licences : Stmt := top 38
theorem sc_law_licences : FnScope [] [] (defScope s_law_licences) := ⟨rfl, rfl, rfl, by decide +kernel, rfl, by decide +kernel, by decide +kernel⟩
abbrev s_law_some : Stmt := top 39
theorem sc_law_some : FnScope ["_law_bag_here", "_law_found", "_law_left", "_law_turn"] ["_law_bag_here"] (defScope s_law_some) := ⟨rfl, rfl, rfl, by decide +kernel, rfl, by decide +kernel, by decide +kernel⟩
abbrev s_law_sorted : Stmt := top 40
theorem sc_law_sorted : FnScope ["_law_words", "_law_one"] ["_law_words"] (defScope s_law_sorted) := ⟨rfl, rfl, rfl, by decide +kernel, rfl, by decide +kernel, by decide +kernel⟩
abbrev s_law_refused : Stmt := top 41
theorem sc_law_refused : FnScope ["_law_words", "e"] ["_law_words"] (defScope s_law_refused) := ⟨rfl, rfl, rfl, by decide +kernel, rfl, by decide +kernel, by decide +kernel⟩
abbrev s_law_one_refused : Stmt := top 42
theorem sc_law_one_refused : FnScope ["_law_one", "_law_other", "e"] ["_law_one", "_law_other"] (defScope s_law_one_refused) := ⟨rfl, rfl, rfl, by decide +kernel, rfl, by decide +kernel, by decide +kernel⟩
abbrev s_law_family_right : Stmt := top 43
theorem sc_law_family_right : FnScope ["_law_family", "_law_words", "_law_due", "_law_one", "_law_thing"] ["_law_family", "_law_words"] (defScope s_law_family_right) := ⟨rfl, rfl, rfl, by decide +kernel, rfl, by decide +kernel, by decide +kernel⟩
abbrev s_law : Stmt := top 44
theorem sc_law : FnScope ["_law_script", "_law_strange", "_law_at", "_law_bag_here", "_law_turn", "_law_words", "_law_kept", "_law_family", "_law_other", "_law_one", "_law_second", "_law_wrong", "_law_worse", "_law_k"] ["_law_script"] (defScope s_law) := ⟨rfl, rfl, rfl, by decide +kernel, rfl, by decide +kernel, by decide +kernel⟩
structure Ad where
  f_BadFamily_init : Addr
  fd_BadFamily_init : FuncData
  f_Family_init : Addr
  fd_Family_init : FuncData
  f_Family_of : Addr
  fd_Family_of : FuncData
  p_Family_of : Addr
  f_Family_contains : Addr
  fd_Family_contains : FuncData
  f_Family_len : Addr
  fd_Family_len : FuncData
  f_Family_bool : Addr
  fd_Family_bool : FuncData
  f_Family_eq : Addr
  fd_Family_eq : FuncData
  f_Family_repr : Addr
  fd_Family_repr : FuncData
  f_law_bag : Addr
  fd_law_bag : FuncData
  f_law_take : Addr
  fd_law_take : FuncData
  f_law_of : Addr
  fd_law_of : FuncData
  f_law_licences : Addr
  fd_law_licences : FuncData
  f_law_some : Addr
  fd_law_some : FuncData
  f_law_sorted : Addr
  fd_law_sorted : FuncData
  f_law_refused : Addr
  fd_law_refused : FuncData
  f_law_one_refused : Addr
  fd_law_one_refused : FuncData
  f_law_family_right : Addr
  fd_law_family_right : FuncData
  f_law : Addr
  fd_law : FuncData
  C_Family : Addr
  a_Family_LICENCES : Addr
  C_World : Addr
  C_BadFamily : Addr
  C_HeirsbackError : Addr
structure Txt (K : PySem.W.Frag) (mg : Str → Option Value) (a : Ad) : Prop where
  F_BadFamily_init : Fun K "__init__" "BadFamily.__init__" s_BadFamily_init a.f_BadFamily_init a.fd_BadFamily_init
  b_BadFamily_init : Binds K a.fd_BadFamily_init ["self", "word"] []
  m_BadFamily_init : Meth K a.C_BadFamily "__init__" a.f_BadFamily_init
  F_Family_init : Fun K "__init__" "Family.__init__" s_Family_init a.f_Family_init a.fd_Family_init
  b_Family_init : Binds K a.fd_Family_init ["self", "words"] []
  m_Family_init : Meth K a.C_Family "__init__" a.f_Family_init
  F_Family_of : Fun K "of" "Family.of" s_Family_of a.f_Family_of a.fd_Family_of
  cm_Family_of : ClX.CMet K a.C_Family (.type "type") "of" a.p_Family_of a.f_Family_of
  F_Family_contains : Fun K "__contains__" "Family.__contains__" s_Family_contains a.f_Family_contains a.fd_Family_contains
  b_Family_contains : Binds K a.fd_Family_contains ["self", "x"] []
  m_Family_contains : Meth K a.C_Family "__contains__" a.f_Family_contains
  F_Family_len : Fun K "__len__" "Family.__len__" s_Family_len a.f_Family_len a.fd_Family_len
  b_Family_len : Binds K a.fd_Family_len ["self"] []
  m_Family_len : Meth K a.C_Family "__len__" a.f_Family_len
  F_Family_bool : Fun K "__bool__" "Family.__bool__" s_Family_bool a.f_Family_bool a.fd_Family_bool
  b_Family_bool : Binds K a.fd_Family_bool ["self"] []
  m_Family_bool : Meth K a.C_Family "__bool__" a.f_Family_bool
  F_Family_eq : Fun K "__eq__" "Family.__eq__" s_Family_eq a.f_Family_eq a.fd_Family_eq
  b_Family_eq : Binds K a.fd_Family_eq ["self", "other"] []
  m_Family_eq : Meth K a.C_Family "__eq__" a.f_Family_eq
  F_Family_repr : Fun K "__repr__" "Family.__repr__" s_Family_repr a.f_Family_repr a.fd_Family_repr
  b_Family_repr : Binds K a.fd_Family_repr ["self"] []
  m_Family_repr : Meth K a.C_Family "__repr__" a.f_Family_repr
  F_law_bag : Fun K "_law_bag" "_law_bag" s_law_bag a.f_law_bag a.fd_law_bag
  b_law_bag : Binds K a.fd_law_bag ["_law_script", "_law_at"] []
  g_law_bag : mg "_law_bag" = some (.ref a.f_law_bag)
  F_law_take : Fun K "_law_take" "_law_take" s_law_take a.f_law_take a.fd_law_take
  b_law_take : Binds K a.fd_law_take ["_law_bag_here", "_law_many"] []
  g_law_take : mg "_law_take" = some (.ref a.f_law_take)
  F_law_of : Fun K "_law_of" "_law_of" s_law_of a.f_law_of a.fd_law_of
  b_law_of : Binds K a.fd_law_of ["_law_bag_here", "_law_some_here"] []
  g_law_of : mg "_law_of" = some (.ref a.f_law_of)
  F_law_licences : Fun K "_law_licences" "_law_licences" s_law_licences a.f_law_licences a.fd_law_licences
  b_law_licences : Binds K a.fd_law_licences [] []
  g_law_licences : mg "_law_licences" = some (.ref a.f_law_licences)
  F_law_some : Fun K "_law_some" "_law_some" s_law_some a.f_law_some a.fd_law_some
  b_law_some : Binds K a.fd_law_some ["_law_bag_here"] []
  g_law_some : mg "_law_some" = some (.ref a.f_law_some)
  F_law_sorted : Fun K "_law_sorted" "_law_sorted" s_law_sorted a.f_law_sorted a.fd_law_sorted
  b_law_sorted : Binds K a.fd_law_sorted ["_law_words"] []
  g_law_sorted : mg "_law_sorted" = some (.ref a.f_law_sorted)
  F_law_refused : Fun K "_law_refused" "_law_refused" s_law_refused a.f_law_refused a.fd_law_refused
  b_law_refused : Binds K a.fd_law_refused ["_law_words"] []
  g_law_refused : mg "_law_refused" = some (.ref a.f_law_refused)
  F_law_one_refused : Fun K "_law_one_refused" "_law_one_refused" s_law_one_refused a.f_law_one_refused a.fd_law_one_refused
  b_law_one_refused : Binds K a.fd_law_one_refused ["_law_one", "_law_other"] []
  g_law_one_refused : mg "_law_one_refused" = some (.ref a.f_law_one_refused)
  F_law_family_right : Fun K "_law_family_right" "_law_family_right" s_law_family_right a.f_law_family_right a.fd_law_family_right
  b_law_family_right : Binds K a.fd_law_family_right ["_law_family", "_law_words"] []
  g_law_family_right : mg "_law_family_right" = some (.ref a.f_law_family_right)
  F_law : Fun K "law" "law" s_law a.f_law a.fd_law
  b_law : Binds K a.fd_law ["_law_script"] []
  g_law : mg "law" = some (.ref a.f_law)
  g_Family : mg "Family" = some (.ref a.C_Family)
  cl_Family : Cls K a.C_Family
  ty_Family : TyC K a.C_Family
  cr_Family : ClX.CRead K a.C_Family (.type "type")
  mk_Family : Mk K a.C_Family a.f_Family_init
  ne_Family : NeC K a.C_Family
  cv_Family_LICENCES : ClX.CVal K a.C_Family (.type "type") "LICENCES" (.ref a.a_Family_LICENCES) (.ref a.a_Family_LICENCES)
  q_Family_LICENCES : ∀ H : Hp, SqT K H a.a_Family_LICENCES [.str "needs", .str "takes", .str "fixes", .str "ties", .str "keeps", .str "named", .str "call", .str "names", .str "renew", .str "copy"]
  no_Family_words : NoAttr K a.C_Family "words"
  g_World : mg "World" = some (.ref a.C_World)
  cl_World : Cls K a.C_World
  ty_World : TyC K a.C_World
  cr_World : ClX.CRead K a.C_World (.type "type")
  g_BadFamily : mg "BadFamily" = some (.ref a.C_BadFamily)
  ty_BadFamily : PySem.W.typeIn K (.ref a.C_BadFamily) = some (.type "type")
  ic_BadFamily : PySem.W.isClsIn K a.C_BadFamily = true
  sb_BadFamily : PySem.W.subIn K (.ref a.C_BadFamily) (.type "BaseException") = some true
  ox_BadFamily : OexC K a.C_BadFamily
  xt_BadFamily : PySem.W.typeIn K (.ref a.f_BadFamily_init) = some (.type "function")
  no_BadFamily_word : PySem.W.findIn K (.ref a.C_BadFamily) "word" = some none
  xf_BadFamily : XfC K a.C_BadFamily
  xc_BadFamily : ExcC K a.C_BadFamily
  g_HeirsbackError : mg "HeirsbackError" = some (.ref a.C_HeirsbackError)
  ty_HeirsbackError : PySem.W.typeIn K (.ref a.C_HeirsbackError) = some (.type "type")
  ic_HeirsbackError : PySem.W.isClsIn K a.C_HeirsbackError = true
  sb_HeirsbackError : PySem.W.subIn K (.ref a.C_HeirsbackError) (.type "BaseException") = some true
  su_bf : PySem.W.subIn K (.ref a.C_BadFamily) (.ref a.C_BadFamily) = some true
  su_hb : PySem.W.subIn K (.ref a.C_BadFamily) (.ref a.C_HeirsbackError) = some true
  su_ve : PySem.W.subIn K (.ref a.C_BadFamily) (.type "ValueError") = some true
  xhd_hb : PySem.W.hasDictIn K a.C_HeirsbackError = true
  n_ValueError : mg "ValueError" = none
  n_abs : mg "abs" = none
  n_bool : mg "bool" = none
  n_enumerate : mg "enumerate" = none
  n_int : mg "int" = none
  n_isinstance : mg "isinstance" = none
  n_len : mg "len" = none
  n_list : mg "list" = none
  n_max : mg "max" = none
  n_min : mg "min" = none
  n_range : mg "range" = none
  n_repr : mg "repr" = none
  n_tuple : mg "tuple" = none
local macro_rules | `(tactic| array_mem_dec) => `(tactic| with_reducible first
  | assumption | exact upd_same
  | (apply upd_new; assumption; array_mem_dec)
  | (apply upd_old; tlg_ne; array_mem_dec)
  | (apply same_at; assumption; array_mem_dec))
local macro_rules | `(tactic| tlg_ne) => `(tactic| with_reducible first
  | assumption | (apply Ne.symm; assumption)
  | (apply ne_new; assumption; array_mem_dec) | (apply ne_new'; assumption; array_mem_dec)
  | (apply ne_of; assumption; assumption; (with_unfolding_all (intro z; cases z; done))))
local macro_rules | `(tactic| decreasing_trivial_pre_omega) => `(tactic| with_reducible first
  | assumption | (apply sqL_of; array_mem_dec) | (apply sqT_of; array_mem_dec)
  | (apply Same.seq; assumption; decreasing_trivial_pre_omega) | (apply sqT_same; assumption; decreasing_trivial_pre_omega)
  | (apply sqL_new; assumption; decreasing_trivial_pre_omega) | (apply sqL_upd; tlg_ne; decreasing_trivial_pre_omega))
local macro_rules | `(tactic| kpt_turns) => `(tactic| with_reducible first
  | assumption | exact Same.refl _ | (apply same_ext; kpt_turns; assumption) | (apply same_mut; kpt_turns; keq_hits) | (apply same_step; assumption; kpt_turns))
local macro_rules | `(tactic| keq_hits) => `(tactic| with_reducible first | assumption | (apply same_none; assumption; keq_hits))
local macro_rules | `(tactic| sizeOf_list_dec) => `(tactic| first | (with_reducible assumption) | (with_reducible_and_instances omega) | (with_unfolding_all decide))
local macro_rules | `(tactic| array_get_dec) => `(tactic| first | (with_reducible assumption) | (apply sz_of; (with_unfolding_all simp); done) | (apply sz_of; omega) | (apply sz_lt; (with_unfolding_all simp); done) | (apply sz_lt; omega))
local macro_rules | `(tactic| keq_rows) => `(tactic| with_reducible first
  | apply rd_asgN | apply rd_seq | apply rd_parA | apply rd_par3A | apply rd_par2 | apply rd_par3 | apply rd_m1 | apply rd_isStr | apply rd_cval | apply rd_asg | apply rd_gname | apply rd_op | (show tVar _ _ _ _; refine rd_var (by with_unfolding_all rfl) ?_) | apply rd_c | apply rd_I0
  | apply rd_cons | apply rd_nil | apply rd_cb | apply rd_test | apply rd_bl | apply rd_fld | apply rd_drop | apply rd_ret | apply rd_retN | apply rd_next
  | apply rd_ifS | apply rd_un | apply rd_B | apply rd_and | apply rd_or | apply rd_not | apply rd_andV | apply rd_orV | apply rd_notV | apply rd_if
  | apply rd_int | apply rd_abs | apply rd_max | apply rd_min | apply rd_strS | apply rd_U
  | apply rd_eqTx | apply rd_neTx | apply rd_inTx | apply rd_notInTx | apply rd_fmt | (show FmtK (.str (tx _)) _ _; refine rd_fmtT (by omega) ?_) | apply rd_jsC | apply rd_jsN | (show JsK _ (tx _) _ (.str (tx _)) _ _; refine rd_JsK (by first | omega | (simp; done) | (simp; omega)) ?_) | (show rAddStr (.str (tx _)) (.str (tx _)) _ _; refine rd_addT (by first | omega | (simp; done) | (simp; omega)) ?_) | (show rLenStr [.str (tx _)] _ _; refine rd_lenTx (by omega) ?_)
  | (show rEq _ _ _ _; refine rd_eq (by with_unfolding_all rfl) ?_) | (show rNe _ _ _ _; refine rd_ne (by with_unfolding_all rfl) ?_) | apply rd_isNone | apply rd_notNone
  | (show rIxL _ _ _ _ _; refine rd_ixL (by decreasing_trivial_pre_omega) (by with_unfolding_all rfl) ?_) | (show rIxT _ _ _ _ _; refine rd_ixT (by decreasing_trivial_pre_omega) (by with_unfolding_all rfl) ?_)
  | (show rLenSeq _ _ _ _; refine rd_lenL (by decreasing_trivial_pre_omega) ?_) | (show rLenSeq _ _ _ _; refine rd_lenT (by decreasing_trivial_pre_omega) ?_)
  | (show rI _ _ _ _ _ _; refine rd_mod (by sizeOf_list_dec) ?_) | (show rI _ _ _ _ _ _; refine rd_div (by sizeOf_list_dec) (by sizeOf_list_dec) ?_) | (show rI _ _ _ _ _ _; refine rd_mulR (by sizeOf_list_dec) (by sizeOf_list_dec) ?_) | (show rI _ _ _ _ _ _; refine rd_mulL (by sizeOf_list_dec) (by sizeOf_list_dec) ?_) | (show rI _ _ _ _ _ _; refine rd_pow (by sizeOf_list_dec) ?_)
  | (show rSetL _ _ _ _ _; refine rd_setL (by array_mem_dec) (by with_unfolding_all rfl) ?_)
  | (show rSlL _ _ _ _ _ _; refine rd_slL (by decreasing_trivial_pre_omega) ?_) | apply rd_inSign | apply rd_notInSign | apply rd_tup | apply rd_lst | apply rd_sl | apply rd_noPart | apply rd_part | apply rd_isInt
  | apply rd_gsub | apply rd_gcons | apply rd_gnil | apply rd_call | apply rd_meth | apply rd_make | apply rd_smeth | apply rd_isC | apply rd_smethK | apply rd_cmeth | apply rd_cmethK
  | apply rd_bm | apply rd_bm0 | (show BmK _ _ _ _ _ _ _ _; refine rd_bmL (by array_mem_dec) ?_) | (show Bm0K _ _ _ _ _ _; refine rd_bm0L (by array_mem_dec) ?_) | apply rd_sfld | apply rd_aug | apply rd_rAdd | apply rd_brk | apply rd_cont
  | apply rd_for | apply rd_iList | (show IList _ _ _ _; refine rd_IList (by decreasing_trivial_pre_omega) ?_) | apply rd_iTup | (show ITup _ _ _ _; refine rd_ITup (by decreasing_trivial_pre_omega) ?_) | apply rd_iEnum | (show IEnum _ _ _ _; refine rd_IEnum (by decreasing_trivial_pre_omega) ?_) | apply rd_iRng1 | (show IRng1 _ _ _; refine rd_IRng1 (by sizeOf_list_dec) (by sizeOf_list_dec) ?_)
  | (show List.length _ ≤ sizeLine ∧ _; refine rd_new (by array_get_dec) ?_) | (show rLenStr _ _ _; refine rd_lenS (by array_get_dec) ?_) | (show rAddStr _ _ _ _; refine rd_addS (by array_get_dec) ?_) | (show rSlS _ _ _ _ _; refine rd_slS (by array_get_dec) ?_) | apply rd_lc | apply rd_yes | (show gTup _ _ _ _ _ _ _; refine rd_gtup (by decreasing_trivial_pre_omega) (by with_unfolding_all rfl) ?_) | (show tMakeL _ _ _ _ _ _ _ _; refine rd_makeL (by with_unfolding_all rfl) ?_))
local macro_rules | `(tactic| kas_types) => `(tactic| with_reducible first | apply rd_isi_int_int | apply rd_isi_int_bool | apply rd_isi_int_str | apply rd_isi_int_list | apply rd_isi_int_tuple | apply rd_isi_bool_int | apply rd_isi_bool_bool | apply rd_isi_bool_str | apply rd_isi_bool_list | apply rd_isi_bool_tuple | apply rd_isi_str_int | apply rd_isi_str_bool | apply rd_isi_str_str | apply rd_isi_str_list | apply rd_isi_str_tuple | (show rIsi _ _ _ _; refine rd_isi_list_int (by array_mem_dec) ?_) | (show rIsi _ _ _ _; refine rd_isi_list_bool (by array_mem_dec) ?_) | (show rIsi _ _ _ _; refine rd_isi_list_str (by array_mem_dec) ?_) | (show rIsi _ _ _ _; refine rd_isi_list_list (by array_mem_dec) ?_) | (show rIsi _ _ _ _; refine rd_isi_list_tuple (by array_mem_dec) ?_) | (show rIsi _ _ _ _; refine rd_isi_tuple_int (by array_mem_dec) ?_) | (show rIsi _ _ _ _; refine rd_isi_tuple_bool (by array_mem_dec) ?_) | (show rIsi _ _ _ _; refine rd_isi_tuple_str (by array_mem_dec) ?_) | (show rIsi _ _ _ _; refine rd_isi_tuple_list (by array_mem_dec) ?_) | (show rIsi _ _ _ _; refine rd_isi_tuple_tuple (by array_mem_dec) ?_) | apply rd_isi_NoneType_int | apply rd_isi_NoneType_bool | apply rd_isi_NoneType_str | apply rd_isi_NoneType_list | apply rd_isi_NoneType_tuple)
local macro_rules | `(tactic| lcg_src) => `(tactic| repeat keq_rows)

section
variable {P : Program} {w : World} {K : PySem.W.Frag} {mg : Str → Option Value} {base : Heap} {a : Ad}
/-- a draw: the bag's two numbers turn, the answer lies below n -/
def sp_law_take : Sp := fun vs H Q _ => ∃ (b : Addr) (d m n : Int), vs = [.ref b, .int n] ∧ H b = some (.lst [.int d, .int m]) ∧ 0 < n ∧ n < 2 ^ 100 ∧
  ∀ r d' m' : Int, 0 ≤ r → r < n → Q (.int r) (upd H b (.lst [.int d', .int m']))
theorem ok_law_take (T : Txt K mg a) : FnOk P w K mg base CX0 1 a.f_law_take a.fd_law_take ["_law_bag_here", "_law_many"]  sp_law_take := by
  refine T.F_law_take.ok sc_law_take (fun vs H Q E h => ?_) (fun cdv A outer s H vs Q E hr h => ?_)
  · obtain ⟨b, d, m, n, rfl, _⟩ := h
    rfl
  · obtain ⟨b, d, m, n, rfl, hb, h0, h1, k⟩ := h
    refine ⟨_, ((pss_cons (ps_if (pt_cmpR op_gt (pe_ix ix_list (pv 0) pe_int (fun _ _ => rfl)) pe_int (nomark _))
 (pss_cons (ps_set (i := 2) sc_law_take.nd rfl (Or.inl rfl) (pe_op op_mod (pe_callTy call_intI (by rfl) T.n_int (by decide +kernel) (pa_cons (pe_ix ix_list (pv 0) pe_int (fun _ _ => rfl)) pa_nil)) (pv 1)))
 (pss_cons (ps_asg (pe_op op_fdivW (pe_ix ix_list (pv 0) pe_int (fun _ _ => rfl)) (pv 1)) (pg_sub (pv 0) pe_int set_list))
 (pss_one (ps_ret (pv 2)))))
 pss_nil)
 (pss_cons (ps_asg (pe_op op_mod (pe_callTy call_intI (by rfl) T.n_int (by decide +kernel) (pa_cons (pe_op op_add (pe_op op_mul (pe_ix ix_list (pv 0) pe_int (fun _ _ => rfl)) pe_int) pe_int) pa_nil)) pe_int) (pg_sub (pv 0) pe_int set_list))
 (pss_one (ps_ret (pe_op op_mod (pe_op op_fdivW (pe_op op_mod (pe_callTy call_intI (by rfl) T.n_int (by decide +kernel) (pa_cons (pe_op op_mul (pe_op op_fdivW (pe_ix ix_list (pv 0) pe_int (fun _ _ => rfl)) pe_int) pe_int) pa_nil)) pe_int) pe_int) (pv 1))))))), ?_⟩
    try simp only [cxK]
    lcg_src
    refine ifD (fun c => ?_) (fun c => ?_)
    · lcg_src
      exact k _ _ _ (Int.emod_nonneg _ (by omega)) (Int.emod_lt_of_pos _ h0)
    · lcg_src
      exact k _ _ _ (Int.emod_nonneg _ (by omega)) (Int.emod_lt_of_pos _ h0)
theorem take_ok {F H : Hp} {b : Addr} {n : Int} {Q : VK} {E : XK} (hb : Bag F H b) (h0 : 0 < n) (h1 : n < 2 ^ 100) (k : ∀ (r : Nat) H', (r : Int) < n → Grow [b] F H F H' → Bag F H' b → Q (.int (r : Nat)) H') : sp_law_take [.ref b, .int n] H Q E := by
  obtain ⟨d, m, e⟩ := hb.hb
  refine ⟨b, d, m, n, rfl, e, h0, h1, fun r d' m' r0 r1 => ?_⟩
  obtain ⟨j, rfl⟩ := Int.eq_ofNat_of_zero_le r0
  obtain ⟨g, h⟩ := hb.turn d' m'
  exact k j _ r1 g h
/-- a new bag -/
def sp_law_bag (K : PySem.W.Frag) : Sp := fun vs H Q _ => ∃ (sc : Addr) (ns : List Int) (at_ : Int), vs = [.ref sc, .int at_] ∧ SqL K H sc (ns.map V.int) ∧ 0 ≤ at_ ∧ at_ < 100 ∧ ns.length ≤ 63 ∧
  ∀ (p : Addr) (d m : Int) (H' : Hp), Same H H' → H p = none → H' p = some (.lst [.int d, .int m]) → Q (.ref p) H'
theorem atI_ints {ns : List Int} {i : Int} (h0 : 0 ≤ i) (h1 : i < (ns.length : Int)) : ∃ z, atI (ns.map V.int) i = some (.int z) := by
  have e : i.toNat < ns.length := by omega
  refine ⟨ns[i.toNat], ?_⟩
  unfold atI ixN
  rw [List.length_map, if_pos h0, if_pos h1]
  simp [e]
theorem cut_ints {ns : List Int} {lo hi : Option Int} {i : Nat} {x : V} (h : (cutV (ns.map V.int) lo hi)[i]? = some x) : ∃ y, x = .int y := by
  have hm := List.mem_of_getElem? h
  unfold cutV at hm
  have hm := List.mem_of_mem_drop (List.mem_of_mem_take hm)
  obtain ⟨y, _, e⟩ := List.mem_map.mp hm
  exact ⟨y, e.symm⟩
theorem ok_law_bag (T : Txt K mg a) : FnOk P w K mg base CX0 1 a.f_law_bag a.fd_law_bag ["_law_script", "_law_at"]  (sp_law_bag K) := by
  refine T.F_law_bag.ok sc_law_bag (fun vs H Q E h => ?_) (fun cdv A outer s H vs Q E hr h => ?_)
  · obtain ⟨_, _, _, rfl, _⟩ := h
    rfl
  · obtain ⟨sc, ns, at_, rfl, hS, h0, h1, hl, k⟩ := h
    refine ⟨_, ((Evl.pss_cut (ps_set (i := 2) sc_law_bag.nd rfl (Or.inl rfl) (pe_ifExp (pt_cmpR op_lt (pv 1) (pe_callB call_lenSeq (by rfl) T.n_len (by decide +kernel) (pa_cons (pv 0) pa_nil)) (nomark _)) (pe_ix ix_list (pv 0) (pv 1) (fun _ _ => rfl)) pe_int))
 (pss_cons (ps_set (i := 3) sc_law_bag.nd rfl (Or.inl rfl) (pe_op op_add (pe_op op_mul pe_int (pv 1)) pe_int))
 (pss_cons (ps_for PassesOwn.never rfl (pi_enum (by rfl) T.n_enumerate (pa_cons (pe_slice sl_list (pv 0) po_none (po_some pe_int)) pa_nil)) (pg_tup rfl (pgs_cons (pg_name (i := 4) sc_law_bag.nd rfl (Or.inl rfl)) (pgs_cons (pg_name (i := 5) sc_law_bag.nd rfl (Or.inl rfl)) pgs_nil)))
 (pss_one (ps_set (i := 3) sc_law_bag.nd rfl (Or.inl rfl) (pe_op op_mod (pe_callTy call_intI (by rfl) T.n_int (by decide +kernel) (pa_cons (pe_op op_add (pe_op op_add (pe_op op_mul (pv 3) pe_int) (pe_op op_mod (pe_callTy call_intI (by rfl) T.n_int (by decide +kernel) (pa_cons (pv 5) pa_nil)) pe_int)) (pe_op op_mul pe_int (pv 4))) pa_nil)) pe_int))))
 (pss_one (ps_ret (pe_lst (pa_cons (pe_ifExp (pt_cmpR op_ge (pe_callB call_absI (by rfl) T.n_abs (by decide +kernel) (pa_cons (pv 2) pa_nil)) (pe_op op_pow pe_int pe_int) (nomark _)) (pe_callB call_absI (by rfl) T.n_abs (by decide +kernel) (pa_cons (pv 2) pa_nil)) pe_int) (pa_cons (pv 3) pa_nil))))))))), ?_⟩
    try simp only [cxK]
    refine rd_cut (fun σ' H' => H' = H ∧ ∃ z : Int, σ' = [some (.ref sc), some (.int at_), some (.int z), none, none, none]) ?_ ?_
    · lcg_src
      refine ifD (fun c => ?_) (fun c => ?_)
      · rw [List.length_map] at c
        obtain ⟨z, hz⟩ := atI_ints h0 c
        lcg_src
        refine rd_ixL hS hz ?_
        lcg_src
        exact ⟨rfl, z, rfl⟩
      · lcg_src
        exact ⟨rfl, 0, rfl⟩
    · rintro σ' H' ⟨rfl, z, rfl⟩
      lcg_src
      intro l hl
      lcg_src
      refine fk_enum (xs := cutV (ns.map V.int) none (some 63)) (fun i σ H2 => Same (upd H' l (.lst (cutV (ns.map V.int) none (some 63)))) H2 ∧ ∃ (m : Int) (u v : Option V), σ = [some (.ref sc), some (.int at_), some (.int z), some (.int m), u, v])
        ⟨Same.refl _, _, _, _, rfl⟩ (fun i σ H2 _ ⟨s2, _⟩ => sqL_of (s2 _ _ upd_same)) ?_ ?_
      · rintro i x T0 σ H2 hx hT ⟨s2, m, u, v, rfl⟩
        obtain ⟨y, rfl⟩ := cut_ints hx
        lcg_src
        exact ⟨s2.trans (same_new hT), _, _, _, rfl⟩
      · rintro σ H2 ⟨s2, m, u, v, rfl⟩
        lcg_src
        refine rd_pow ⟨by decide, by decide, by decide⟩ ?_
        lcg_src
        refine ifD (fun c => ?_) (fun c => ?_)
        all_goals
          lcg_src
          intro p hp
          have s3 : Same H' H2 := (same_new hl).trans s2
          exact k _ _ _ _ (s3.trans (same_new hp)) (s3.free hp) upd_same
theorem bag_ok {H : Hp} {sc : Addr} {ns : List Int} {at_ : Int} {Q : VK} {E : XK} (hS : SqL K H sc (ns.map V.int)) (h0 : 0 ≤ at_) (h1 : at_ < 100) (hl : ns.length ≤ 63) (k : ∀ b F H', Same H F → Bag F H' b → Q (.ref b) H') : sp_law_bag K [.ref sc, .int at_] H Q E := by
  refine ⟨sc, ns, at_, rfl, hS, h0, h1, hl, fun p d m H' s n e => k p H H' (Same.refl _) ⟨s, n, d, m, e⟩⟩
/-- one of a list's items -/
def sp_law_of (K : PySem.W.Frag) : Sp := fun vs H Q _ => ∃ (F : Hp) (b l : Addr) (xs : List V), vs = [.ref b, .ref l] ∧ Bag F H b ∧ SqL K F l xs ∧ 0 < xs.length ∧ xs.length < 1000 ∧
  ∀ (i : Nat) (x : V) H', xs[i]? = some x → Grow [b] F H F H' → Bag F H' b → Q x H'
theorem ok_law_of (T : Txt K mg a) : FnOk P w K mg base CX0 2 a.f_law_of a.fd_law_of ["_law_bag_here", "_law_some_here"]  (sp_law_of K) := by
  refine T.F_law_of.ok sc_law_of (fun vs H Q E h => ?_) (fun cdv A outer s H vs Q E hr h => ?_)
  · obtain ⟨_, _, _, _, rfl, _⟩ := h
    rfl
  · obtain ⟨F, b, l, xs, rfl, hb, hl, h0, h1, k⟩ := h
    have hlH : SqL K H l xs := hb.fh.seq hl
    refine ⟨_, ((pss_one (ps_ret (pe_ix ix_list (pv 1) (pe_call (ok_law_take T) hr rfl T.g_law_take T.F_law_take.kp T.b_law_take .nil pass0 (pa_cons (pv 0) (pa_cons (pe_callB call_lenSeq (by rfl) T.n_len (by decide +kernel) (pa_cons (pv 1) pa_nil)) pa_nil))) (fun _ _ => rfl))))), ?_⟩
    try simp only [cxK]
    lcg_src
    refine take_ok hb (by omega) (by omega) fun r H1 hr1 g1 hb1 => ?_
    have hr2 : r < xs.length := by omega
    have e : xs[r]? = some xs[r] := List.getElem?_eq_getElem hr2
    refine rd_ixL (hb1.fh.seq hl) (atI_at e) ?_
    exact k r _ H1 e g1 hb1
/-- .. of data -/
theorem of_dat {F H : Hp} {b : Addr} {v : V} {ds : List PyData} {Q : VK} {E : XK} (hb : Bag F H b) (hv : Dp K F v (.list ds)) (h0 : 0 < ds.length) (h1 : ds.length < 1000) (k : ∀ x d H', d ∈ ds → Dp K F x d → Grow [b] F H F H' → Bag F H' b → Q x H') : sp_law_of K [.ref b, v] H Q E := by
  obtain ⟨l, xs, rfl, hl, ha⟩ := hv.list_inv
  have hn := ha.length
  refine ⟨F, b, l, xs, rfl, hb, hl, by omega, by omega, fun i x H' e g h => ?_⟩
  obtain ⟨d, hd, hx⟩ := ha.get e
  exact k x d H' (List.mem_of_getElem? hd) hx g h
end
end Ex

set_option maxHeartbeats 8000000
namespace Ex
open PySem L2 Hk
local macro_rules | `(tactic| array_mem_dec) => `(tactic| with_reducible first
  | assumption | exact upd_same
  | (apply upd_new; assumption; array_mem_dec)
  | (apply upd_old; tlg_ne; array_mem_dec)
  | (apply same_at; assumption; array_mem_dec))
local macro_rules | `(tactic| tlg_ne) => `(tactic| with_reducible first
  | assumption | (apply Ne.symm; assumption)
  | (apply ne_new; assumption; array_mem_dec) | (apply ne_new'; assumption; array_mem_dec)
  | (apply ne_of; assumption; assumption; (with_unfolding_all (intro z; cases z; done))))
local macro_rules | `(tactic| decreasing_trivial_pre_omega) => `(tactic| with_reducible first
  | assumption | (apply sqL_of; array_mem_dec) | (apply sqT_of; array_mem_dec)
  | (apply Same.seq; assumption; decreasing_trivial_pre_omega) | (apply sqT_same; assumption; decreasing_trivial_pre_omega)
  | (apply sqL_new; assumption; decreasing_trivial_pre_omega) | (apply sqL_upd; tlg_ne; decreasing_trivial_pre_omega))
local macro_rules | `(tactic| kpt_turns) => `(tactic| with_reducible first
  | assumption | exact Same.refl _ | (apply same_ext; kpt_turns; assumption) | (apply same_mut; kpt_turns; keq_hits) | (apply same_step; assumption; kpt_turns))
local macro_rules | `(tactic| keq_hits) => `(tactic| with_reducible first | assumption | (apply same_none; assumption; keq_hits))
local macro_rules | `(tactic| sizeOf_list_dec) => `(tactic| first | (with_reducible assumption) | (with_reducible_and_instances omega) | (with_unfolding_all decide))
local macro_rules | `(tactic| array_get_dec) => `(tactic| first | (with_reducible assumption) | (apply sz_of; (with_unfolding_all simp); done) | (apply sz_of; omega) | (apply sz_lt; (with_unfolding_all simp); done) | (apply sz_lt; omega))
local macro_rules | `(tactic| keq_rows) => `(tactic| with_reducible first
  | apply rd_asgN | apply rd_seq | apply rd_parA | apply rd_par3A | apply rd_par2 | apply rd_par3 | apply rd_m1 | apply rd_isStr | apply rd_cval | apply rd_asg | apply rd_gname | apply rd_op | (show tVar _ _ _ _; refine rd_var (by with_unfolding_all rfl) ?_) | apply rd_c | apply rd_I0
  | apply rd_cons | apply rd_nil | apply rd_cb | apply rd_test | apply rd_bl | apply rd_fld | apply rd_drop | apply rd_ret | apply rd_retN | apply rd_next
  | apply rd_ifS | apply rd_un | apply rd_B | apply rd_and | apply rd_or | apply rd_not | apply rd_andV | apply rd_orV | apply rd_notV | apply rd_if
  | apply rd_int | apply rd_abs | apply rd_max | apply rd_min | apply rd_strS | apply rd_U
  | apply rd_eqTx | apply rd_neTx | apply rd_inTx | apply rd_notInTx | apply rd_fmt | (show FmtK (.str (tx _)) _ _; refine rd_fmtT (by omega) ?_) | apply rd_jsC | apply rd_jsN | (show JsK _ (tx _) _ (.str (tx _)) _ _; refine rd_JsK (by first | omega | (simp; done) | (simp; omega)) ?_) | (show rAddStr (.str (tx _)) (.str (tx _)) _ _; refine rd_addT (by first | omega | (simp; done) | (simp; omega)) ?_) | (show rLenStr [.str (tx _)] _ _; refine rd_lenTx (by omega) ?_)
  | (show rEq _ _ _ _; refine rd_eq (by with_unfolding_all rfl) ?_) | (show rNe _ _ _ _; refine rd_ne (by with_unfolding_all rfl) ?_) | apply rd_isNone | apply rd_notNone
  | (show rIxL _ _ _ _ _; refine rd_ixL (by decreasing_trivial_pre_omega) (by with_unfolding_all rfl) ?_) | (show rIxT _ _ _ _ _; refine rd_ixT (by decreasing_trivial_pre_omega) (by with_unfolding_all rfl) ?_)
  | (show rLenSeq _ _ _ _; refine rd_lenL (by decreasing_trivial_pre_omega) ?_) | (show rLenSeq _ _ _ _; refine rd_lenT (by decreasing_trivial_pre_omega) ?_)
  | (show rI _ _ _ _ _ _; refine rd_mod (by sizeOf_list_dec) ?_) | (show rI _ _ _ _ _ _; refine rd_div (by sizeOf_list_dec) (by sizeOf_list_dec) ?_) | (show rI _ _ _ _ _ _; refine rd_mulR (by sizeOf_list_dec) (by sizeOf_list_dec) ?_) | (show rI _ _ _ _ _ _; refine rd_mulL (by sizeOf_list_dec) (by sizeOf_list_dec) ?_) | (show rI _ _ _ _ _ _; refine rd_pow (by sizeOf_list_dec) ?_)
  | (show rSetL _ _ _ _ _; refine rd_setL (by array_mem_dec) (by with_unfolding_all rfl) ?_)
  | apply rd_inSign | apply rd_notInSign | apply rd_tupK | apply rd_lstK | apply rd_sl | apply rd_noPart | apply rd_part | apply rd_isInt
  | apply rd_gsub | apply rd_gcons | apply rd_gnil | apply rd_call | apply rd_meth | apply rd_make | apply rd_smeth | apply rd_isC | apply rd_smethK | apply rd_cmeth | apply rd_cmethK
  | apply rd_bm | apply rd_bm0 | (show BmK _ _ _ _ _ _ _ _; refine rd_bmL (by array_mem_dec) ?_) | (show Bm0K _ _ _ _ _ _; refine rd_bm0L (by array_mem_dec) ?_) | apply rd_sfld | apply rd_aug | apply rd_rAdd | apply rd_brk | apply rd_cont
  | apply rd_for | apply rd_iList | (show IList _ _ _ _; refine rd_IList (by decreasing_trivial_pre_omega) ?_) | apply rd_iTup | (show ITup _ _ _ _; refine rd_ITup (by decreasing_trivial_pre_omega) ?_) | apply rd_iEnum | (show IEnum _ _ _ _; refine rd_IEnum (by decreasing_trivial_pre_omega) ?_) | apply rd_iRng1 | (show IRng1 _ _ _; refine rd_IRng1 (by sizeOf_list_dec) (by sizeOf_list_dec) ?_)
  | (show rLenStr _ _ _; refine rd_lenS (by array_get_dec) ?_) | (show rAddStr _ _ _ _; refine rd_addS (by array_get_dec) ?_) | (show rSlS _ _ _ _ _; refine rd_slS (by array_get_dec) ?_) | apply rd_lc | apply rd_yes | (show gTup _ _ _ _ _ _ _; refine rd_gtup (by decreasing_trivial_pre_omega) (by with_unfolding_all rfl) ?_) | (show tMakeL _ _ _ _ _ _ _ _; refine rd_makeL (by with_unfolding_all rfl) ?_))
local macro_rules | `(tactic| kas_types) => `(tactic| with_reducible first | apply rd_isi_int_int | apply rd_isi_int_bool | apply rd_isi_int_str | apply rd_isi_int_list | apply rd_isi_int_tuple | apply rd_isi_bool_int | apply rd_isi_bool_bool | apply rd_isi_bool_str | apply rd_isi_bool_list | apply rd_isi_bool_tuple | apply rd_isi_str_int | apply rd_isi_str_bool | apply rd_isi_str_str | apply rd_isi_str_list | apply rd_isi_str_tuple | (show rIsi _ _ _ _; refine rd_isi_list_int (by array_mem_dec) ?_) | (show rIsi _ _ _ _; refine rd_isi_list_bool (by array_mem_dec) ?_) | (show rIsi _ _ _ _; refine rd_isi_list_str (by array_mem_dec) ?_) | (show rIsi _ _ _ _; refine rd_isi_list_list (by array_mem_dec) ?_) | (show rIsi _ _ _ _; refine rd_isi_list_tuple (by array_mem_dec) ?_) | (show rIsi _ _ _ _; refine rd_isi_tuple_int (by array_mem_dec) ?_) | (show rIsi _ _ _ _; refine rd_isi_tuple_bool (by array_mem_dec) ?_) | (show rIsi _ _ _ _; refine rd_isi_tuple_str (by array_mem_dec) ?_) | (show rIsi _ _ _ _; refine rd_isi_tuple_list (by array_mem_dec) ?_) | (show rIsi _ _ _ _; refine rd_isi_tuple_tuple (by array_mem_dec) ?_) | apply rd_isi_NoneType_int | apply rd_isi_NoneType_bool | apply rd_isi_NoneType_str | apply rd_isi_NoneType_list | apply rd_isi_NoneType_tuple)
local macro_rules | `(tactic| lcg_src) => `(tactic| repeat keq_rows)

local macro_rules | `(tactic| lcg_off) => `(tactic| repeat keq_rows)
def LICS : List (List Nat) := [[110, 101, 101, 100, 115], [116, 97, 107, 101, 115], [102, 105, 120, 101, 115], [116, 105, 101, 115], [107, 101, 101, 112, 115], [110, 97, 109, 101, 100], [99, 97, 108, 108], [110, 97, 109, 101, 115], [114, 101, 110, 101, 119], [99, 111, 112, 121]]
theorem lics_eq : ([.str "needs", .str "takes", .str "fixes", .str "ties", .str "keeps", .str "named", .str "call", .str "names", .str "renew", .str "copy"] : List V) = LICS.map wd := by decide +kernel
theorem lics_okT : ∀ w ∈ LICS, okT w := by unfold okT; decide
def fam (ws : List (List Nat)) : List (List Nat) := LICS.filter fun w => decide (w ∈ ws)
theorem fam_sub {ws : List (List Nat)} {w : List Nat} (h : w ∈ fam ws) : w ∈ LICS := (List.mem_filter.mp h).1
theorem fam_okT {ws : List (List Nat)} : ∀ w ∈ fam ws, okT w := fun w h => lics_okT w (fam_sub h)
theorem fam_len (ws : List (List Nat)) : (fam ws).length ≤ 10 := List.length_filter_le _ _
def sD (l : List Nat) : PyData := .str (tx l)
def licD : List PyData := LICS.map sD
def isLic (d : PyData) : Bool := licD.any fun z => PyData.eqv z d
theorem lic_shaped : SeqAt.shaped (.tuple licD) = true := by decide +kernel
theorem isLic_str {d : PyData} (h : isLic d = true) : ∃ w ∈ LICS, d = sD w := by
  obtain ⟨z, hz, e⟩ := List.any_eq_true.mp h
  obtain ⟨w, hw, rfl⟩ := List.mem_map.mp hz
  refine ⟨w, hw, ?_⟩
  cases d <;> simp [sD, PyData.eqv] at e
  rw [← e]
  rfl
theorem isLic_of {w : List Nat} (h : w ∈ LICS) : isLic (sD w) = true := by
  refine List.any_eq_true.mpr ⟨sD w, List.mem_map.mpr ⟨w, h, rfl⟩, ?_⟩
  simp [sD, PyData.eqv]
theorem fk_seqV {K : PySem.W.Frag} {σ : L2.St} {H : Hp} {g : TG} {tb : TS} {nx : L2.St → Hp → Prop} {rt : VK} {bk ct : L2.St → Hp → Prop} {n : Nat} {q : Addr} {xs : List V} (e : σ[n]? = some (some (.ref q))) (h : SqL K H q xs ∨ SqT K H q xs) (Pv : Nat → L2.St → Hp → Prop) (h0 : Pv 0 σ H) (hs : ∀ i σ' H', Pv i σ' H' → Same H H')
    (turn : ∀ i x σ H, xs[i]? = some x → Pv i σ H → g x σ H fun σ2 H2 => tb ⟨Pv (i + 1), rt, nx, Pv (i + 1)⟩ σ2 H2) (hd : ∀ σ H, Pv xs.length σ H → nx σ H) : iSeqV K n σ H fun J H1 => ForK J g tb ⟨nx, rt, bk, ct⟩ σ H1 := by
  rcases h with h | h
  · exact .inl (rd_iList (rd_var e (rd_IList h (fk_list Pv h0 (fun i σ' H' _ p => (hs i σ' H' p).seq h) turn hd))))
  · exact .inr (rd_iTup (rd_var e (rd_ITup h (fk_tup Pv h0 (fun i σ' H' _ p => sqT_same (hs i σ' H' p) h) turn hd))))
theorem rd_inWX {K : PySem.W.Frag} {H : Hp} {Q : VK} {l : List Nat} {ws : List (List Nat)} {q : Addr} (h : SqL K H q (ws.map wd) ∨ SqT K H q (ws.map wd)) (k : Q (.bl (decide (l ∈ ws))) H) : rIn K false (.str (tx l)) (.ref q) H Q := h.elim (fun h => rd_inWL h k) fun h => rd_inWT h k
theorem seqX {K : PySem.W.Frag} {H H1 : Hp} {q : Addr} {xs : List V} (h : SqL K H q xs ∨ SqT K H q xs) (s : Same H H1) : SqL K H1 q xs ∨ SqT K H1 q xs := h.imp (fun h => s.seq h) fun h => sqT_same s h
section
variable {P : Program} {w : World} {K : PySem.W.Frag} {mg : Str → Option Value} {base : Heap} {a : Ad}
theorem sD_all {F : Hp} (ws : List (List Nat)) : DpAll K F (ws.map wd) (ws.map sD) := by
  induction ws with
  | nil => exact .nil
  | cons x ws ih => exact .cons (.str _) ih
theorem sD_inv {F : Hp} : ∀ {ws : List (List Nat)} {xs : List V}, DpAll K F xs (ws.map sD) → xs = ws.map wd
  | [], _, h => by cases h; rfl
  | w :: ws, _, h => by
    cases h with
    | cons hd ha => rw [hd.str_inv, sD_inv ha]; rfl
theorem lic_sq (T : Txt K mg a) (H : Hp) : SqT K H a.a_Family_LICENCES (LICS.map wd) := lics_eq ▸ T.q_Family_LICENCES H
theorem lic_dp (T : Txt K mg a) {H : Hp} : Dp K H (.ref a.a_Family_LICENCES) (.tuple licD) := .tup (lic_sq T H) (sD_all LICS)
/-- a family at p, in the frozen part -/
structure FamAt (a : Ad) (F : Hp) (p : Addr) (ws : List (List Nat)) : Prop where
  ex : ∃ dx q, F p = some (.ins a.C_Family dx [("words", .ref q)]) ∧ F q = some (.tup (ws.map wd))
theorem FamAt.mono {F F' : Hp} {p : Addr} {ws : List (List Nat)} (h : FamAt a F p ws) (e : Same F F') : FamAt a F' p ws :=
  let ⟨dx, q, h1, h2⟩ := h.ex
  ⟨dx, q, e _ _ h1, e _ _ h2⟩
def Err (C : Addr) (f : Str) (v : V) (H : Hp) (E : XK) : Prop := ∀ d H', Same H H' → H d = none → H' d = some (.xd [(f, v)]) → E (.ref C) (some d) H'
theorem ok_BadFamily_init (T : Txt K mg a) : FnOk P w K mg base CX0 1 a.f_BadFamily_init a.fd_BadFamily_init ["self", "word"]  (sp_err1 a.C_BadFamily "word") := by
  refine T.F_BadFamily_init.ok sc_BadFamily_init (fun vs H Q E h => ?_) (fun cdv A outer s H vs Q E hr h => ?_)
  · obtain ⟨_, _, rfl, _⟩ := h
    rfl
  · obtain ⟨e, v, rfl, he, k⟩ := h
    refine ⟨_, ((pss_one (ps_ost (pv 0) (pv 1)))), ?_⟩
    try simp only [cxK]
    refine rd_ost ?_
    lcg_off
    exact ⟨e, _, rfl, T.ox_BadFamily, T.no_BadFamily_word, .inl ⟨he, fun dx h1 h2 => k dx h1 h2⟩⟩
/-- words for a family: all right, or the first wrong one at i -/
def FamWords (xs : List V) (ds : List PyData) (H : Hp) (E : XK) (C : Addr) (good : List (List Nat) → Prop) : Prop :=
  (∃ ws, ds = ws.map sD ∧ (∀ w ∈ ws, w ∈ LICS) ∧ good ws) ∨ (∃ (i : Nat) (x : V) (d : PyData), xs[i]? = some x ∧ ds[i]? = some d ∧ isLic d = false ∧ (∀ (j : Nat) e, j < i → ds[j]? = some e → isLic e = true) ∧ Err C "word" x H E)
def sp_Family_init (a : Ad) (K : PySem.W.Frag) : Sp := fun vs H Q E => ∃ (F : Hp) (p dx q : Addr) (xs : List V) (ds : List PyData), vs = [.ref p, .ref q] ∧ Same F H ∧ Hold F H p (.ins a.C_Family dx []) ∧ (SqL K H q xs ∨ SqT K H q xs) ∧ DpAll K F xs ds ∧ (∀ d ∈ ds, SeqAt.shaped d = true) ∧
  FamWords xs ds H E a.C_BadFamily (fun ws => ∀ F' H' T, Grow [p] F H F' H' → Hold F' H' p (.ins a.C_Family dx [("words", .ref T)]) → F' T = some (.tup ((fam ws).map wd)) → Q .non H')
theorem ok_Family_init (T : Txt K mg a) : FnOk P w K mg base (CX P w) 3 a.f_Family_init a.fd_Family_init ["self", "words"]  (sp_Family_init a K) := by
  refine T.F_Family_init.okX sc_Family_init (fun vs H Q E h => ?_) (fun cdv A outer s H vs Q E hr h => ?_)
  · obtain ⟨_, _, _, _, _, _, rfl, _⟩ := h
    rfl
  · obtain ⟨F, p, dx, q, xs, ds, rfl, fh, hp, hq, hD, hS, h⟩ := h
    have hxl := hD.length
    refine ⟨_, ((pss_cons (ps_for (passes_of rfl) rfl (pi_seqV (pv 1)) (pg_name (i := 2) sc_Family_init.nd rfl (Or.inl rfl))
 (pss_one (ps_if (pt_cmpR (op_notInDT (units65 hr)) (pv 2) (ClX.pe_cval (pe_glob (v := .ref _) rfl T.g_Family rfl)) (by rfl))
 (pss_one (ps_raiseO rfl (takes_of rfl rfl rfl rfl) T.ox_BadFamily T.m_BadFamily_init.at_ T.xt_BadFamily (ok_BadFamily_init T) hr T.b_BadFamily_init pass0 rfl T.g_BadFamily (pa_cons (pv 2) pa_nil)))
 pss_nil)))
 (pss_one (ps_fld (pv 0) (pe_callTy call_tupOf (by rfl) T.n_tuple (by decide +kernel) (pa_cons (pe_lc (own := [("licence", 3)]) (g := gName 3) rfl sc_Family_init.nd (pi_tup (ClX.pe_cval (pe_glob (v := .ref _) rfl T.g_Family rfl))) (blkOk_by (own := [("licence", 3)]) (N := ["self", "words", "word", "licence"]) (sc := defScope s_Family_init) (by decide +kernel)) (fun _ _ _ _ _ => (pg_name (i := 3) sc_Family_init.nd rfl (Or.inl rfl))) (fun _ _ _ _ _ => (pts_one (pt_cmpR (op_inSeqK (K := K)) (pv 3) (pv 1) (by rfl)))) (fun _ _ _ _ _ => (pv 3))) pa_nil)) rfl)))), ?_⟩
    try simp only [cxK]
    lcg_off
    rcases h with ⟨ws, eds, hws, k⟩ | ⟨i0, x0, d0, hx0, hd0, hb0, hpre0, k⟩
    · have exs : xs = ws.map wd := sD_inv (eds ▸ hD)
      refine fk_seqV (n := 1) (by with_unfolding_all rfl) hq (fun i σ H' => ∃ u2, σ = [some (.ref p), some (.ref q), u2, none] ∧ H' = H) ⟨_, rfl, rfl⟩ (fun i σ' H' ⟨_, _, e⟩ => e ▸ Same.refl _) ?_ ?_
      · rintro i x σ H' hx ⟨u2, rfl, rfl⟩
        obtain ⟨d, hd, hdx⟩ := hD.get hx
        have hsh := hS d (List.mem_of_getElem? hd)
        lcg_off
        refine ⟨_, _, _, _, rfl, T.cr_Family, T.cv_Family_LICENCES, ?_⟩
        refine ⟨d, licD, hdx.mono fh, lic_dp T, hsh, lic_shaped, ?_⟩
        lcg_off
        have hl : isLic d = true := by
          have hm := List.mem_of_getElem? hd
          rw [eds] at hm
          obtain ⟨w1, hw1, rfl⟩ := List.mem_map.mp hm
          exact isLic_of (hws w1 hw1)
        refine ifF (by show (!isLic d) = false; rw [hl]; rfl) ?_
        lcg_off
        exact ⟨_, rfl, rfl⟩
      · rintro σ H' ⟨u2, rfl, rfl⟩
        subst exs
        lcg_off
        refine ⟨_, _, _, _, rfl, T.cr_Family, T.cv_Family_LICENCES, ?_⟩
        refine rd_ITup (lic_sq T H') ?_
        refine lcPT (xs := LICS.map wd) (fun j F' acc => acc = ((LICS.take j).filter fun w => decide (w ∈ ws)).map wd) fh (lic_sq T F) (by decide) rfl (fun j F' acc e => ?_) (fun j F1 F2 acc _ e => e) (fun j v F5 H5 acc hj hv g5 hacc Done Kept hd hkp => ?_) fun F5 H5 D acc g5 hD5 h5 hacc => ?_
        · rw [e, List.length_map]
          refine Nat.le_trans (List.length_filter_le _ _) ?_
          rw [List.length_take]
          omega
        · rw [List.getElem?_map] at hv
          cases hc : LICS[j]? with
          | none => rw [hc] at hv; cases hv
          | some s1 =>
            rw [hc] at hv
            obtain rfl : V.str (tx s1) = v := Option.some.inj hv
            lcg_off
            refine ⟨rfl, ?_⟩
            lcg_off
            refine rd_inWX (seqX hq g5.same) ?_
            lcg_off
            refine ifB (fun c => ?_) (fun c => ?_)
            · lcg_off
              refine hkp F5 H5 _ (Grow.refl g5.fh) ?_
              rw [filter_take_succ _ hc, c, hacc]
              simp [wd]
            · refine hd F5 H5 (Grow.refl g5.fh) ?_
              rw [filter_take_succ _ hc, c, hacc]
              simp
        · rw [List.length_map, List.take_length] at hacc
          subst hacc
          have hp5 := hp.go0 g5
          lcg_off
          refine rd_tupL (sqL_of h5.h) fun T6 hT6 => ?_
          have g6 := g5.new (o := .tup ((LICS.filter fun w => decide (w ∈ ws)).map wd)) hT6
          have hp6 := hp5.newF (u := .tup ((LICS.filter fun w => decide (w ∈ ws)).map wd)) hT6
          lcg_off
          refine rd_sfldK hp6.h T.cl_Family T.no_Family_words (by show 0 < 1000; decide) ?_
          refine k _ _ T6 (g6.weak.mut hp6.f (.inl (by simp))) hp6.put upd_same
    · have hi0 := (List.getElem?_eq_some_iff.mp hx0).1
      refine fk_seqV (n := 1) (by with_unfolding_all rfl) hq (fun i σ H' => ∃ u2, σ = [some (.ref p), some (.ref q), u2, none] ∧ H' = H ∧ i ≤ i0) ⟨_, rfl, rfl, by omega⟩ (fun i σ' H' ⟨_, _, e, _⟩ => e ▸ Same.refl _) ?_ ?_
      · rintro i x σ H' hx ⟨u2, rfl, rfl, hi⟩
        obtain ⟨d, hd, hdx⟩ := hD.get hx
        have hsh := hS d (List.mem_of_getElem? hd)
        lcg_off
        refine ⟨_, _, _, _, rfl, T.cr_Family, T.cv_Family_LICENCES, ?_⟩
        refine ⟨d, licD, hdx.mono fh, lic_dp T, hsh, lic_shaped, ?_⟩
        lcg_off
        refine ifB (fun c => ?_) (fun c => ?_)
        · have hl : isLic d = false := by
            show (licD.any fun z => PyData.eqv z d) = false
            simpa using c
          have ei : i = i0 := by
            rcases Nat.lt_or_eq_of_le hi with z | z
            · have := hpre0 i d z hd
              rw [hl] at this
              cases this
            · exact z
          subst ei
          rw [hx0] at hx
          cases hx
          refine rd_raiseO ?_
          lcg_off
          exact rd_err1 fun dd H1 h1 h2 h3 => k dd H1 h2 h1 h3
        · have hl : isLic d = true := by
            show (licD.any fun z => PyData.eqv z d) = true
            simpa using c
          have hne : i ≠ i0 := fun z => by
            subst z
            rw [hd0] at hd
            cases hd
            rw [hb0] at hl
            cases hl
          lcg_off
          exact ⟨_, rfl, rfl, by omega⟩
      · rintro σ H' ⟨u2, rfl, rfl, hi⟩
        omega
end
end Ex

namespace Ex
open PySem L2 Hk
local macro_rules | `(tactic| array_mem_dec) => `(tactic| with_reducible first
  | assumption | exact upd_same
  | (apply upd_new; assumption; array_mem_dec)
  | (apply upd_old; tlg_ne; array_mem_dec)
  | (apply same_at; assumption; array_mem_dec))
local macro_rules | `(tactic| tlg_ne) => `(tactic| with_reducible first
  | assumption | (apply Ne.symm; assumption)
  | (apply ne_new; assumption; array_mem_dec) | (apply ne_new'; assumption; array_mem_dec)
  | (apply ne_of; assumption; assumption; (with_unfolding_all (intro z; cases z; done))))
local macro_rules | `(tactic| decreasing_trivial_pre_omega) => `(tactic| with_reducible first
  | assumption | (apply sqL_of; array_mem_dec) | (apply sqT_of; array_mem_dec)
  | (apply Same.seq; assumption; decreasing_trivial_pre_omega) | (apply sqT_same; assumption; decreasing_trivial_pre_omega)
  | (apply sqL_new; assumption; decreasing_trivial_pre_omega) | (apply sqL_upd; tlg_ne; decreasing_trivial_pre_omega))
local macro_rules | `(tactic| kpt_turns) => `(tactic| with_reducible first
  | assumption | exact Same.refl _ | (apply same_ext; kpt_turns; assumption) | (apply same_mut; kpt_turns; keq_hits) | (apply same_step; assumption; kpt_turns))
local macro_rules | `(tactic| keq_hits) => `(tactic| with_reducible first | assumption | (apply same_none; assumption; keq_hits))
local macro_rules | `(tactic| sizeOf_list_dec) => `(tactic| first | (with_reducible assumption) | (with_reducible_and_instances omega) | (with_unfolding_all decide))
local macro_rules | `(tactic| array_get_dec) => `(tactic| first | (with_reducible assumption) | (apply sz_of; (with_unfolding_all simp); done) | (apply sz_of; omega) | (apply sz_lt; (with_unfolding_all simp); done) | (apply sz_lt; omega))
local macro_rules | `(tactic| keq_rows) => `(tactic| with_reducible first
  | apply rd_asgN | apply rd_seq | apply rd_parA | apply rd_par3A | apply rd_par2 | apply rd_par3 | apply rd_m1 | apply rd_isStr | apply rd_cval | apply rd_asg | apply rd_gname | apply rd_op | (show tVar _ _ _ _; refine rd_var (by with_unfolding_all rfl) ?_) | apply rd_c | apply rd_I0
  | apply rd_cons | apply rd_nil | apply rd_cb | apply rd_test | apply rd_bl | apply rd_fld | apply rd_drop | apply rd_ret | apply rd_retN | apply rd_next
  | apply rd_ifS | apply rd_un | apply rd_B | apply rd_and | apply rd_or | apply rd_not | apply rd_andV | apply rd_orV | apply rd_notV | apply rd_if
  | apply rd_int | apply rd_abs | apply rd_max | apply rd_min | apply rd_strS | apply rd_U
  | apply rd_eqTx | apply rd_neTx | apply rd_inTx | apply rd_notInTx | apply rd_fmt | (show FmtK (.str (tx _)) _ _; refine rd_fmtT (by omega) ?_) | apply rd_jsC | apply rd_jsN | (show JsK _ (tx _) _ (.str (tx _)) _ _; refine rd_JsK (by first | omega | (simp; done) | (simp; omega)) ?_) | (show rAddStr (.str (tx _)) (.str (tx _)) _ _; refine rd_addT (by first | omega | (simp; done) | (simp; omega)) ?_) | (show rLenStr [.str (tx _)] _ _; refine rd_lenTx (by omega) ?_)
  | (show rEq _ _ _ _; refine rd_eq (by with_unfolding_all rfl) ?_) | (show rNe _ _ _ _; refine rd_ne (by with_unfolding_all rfl) ?_) | apply rd_isNone | apply rd_notNone
  | (show rIxL _ _ _ _ _; refine rd_ixL (by decreasing_trivial_pre_omega) (by with_unfolding_all rfl) ?_) | (show rIxT _ _ _ _ _; refine rd_ixT (by decreasing_trivial_pre_omega) (by with_unfolding_all rfl) ?_)
  | (show rLenSeq _ _ _ _; refine rd_lenL (by decreasing_trivial_pre_omega) ?_) | (show rLenSeq _ _ _ _; refine rd_lenT (by decreasing_trivial_pre_omega) ?_)
  | (show rI _ _ _ _ _ _; refine rd_mod (by sizeOf_list_dec) ?_) | (show rI _ _ _ _ _ _; refine rd_div (by sizeOf_list_dec) (by sizeOf_list_dec) ?_) | (show rI _ _ _ _ _ _; refine rd_mulR (by sizeOf_list_dec) (by sizeOf_list_dec) ?_) | (show rI _ _ _ _ _ _; refine rd_mulL (by sizeOf_list_dec) (by sizeOf_list_dec) ?_) | (show rI _ _ _ _ _ _; refine rd_pow (by sizeOf_list_dec) ?_)
  | (show rSetL _ _ _ _ _; refine rd_setL (by array_mem_dec) (by with_unfolding_all rfl) ?_)
  | apply rd_inSign | apply rd_notInSign | apply rd_tupK | apply rd_lstK | apply rd_sl | apply rd_noPart | apply rd_part | apply rd_isInt
  | apply rd_gsub | apply rd_gcons | apply rd_gnil | apply rd_call | apply rd_meth | apply rd_make | apply rd_smeth | apply rd_isC | apply rd_smethK | apply rd_cmeth | apply rd_cmethK
  | apply rd_bm | apply rd_bm0 | (show BmK _ _ _ _ _ _ _ _; refine rd_bmL (by array_mem_dec) ?_) | (show Bm0K _ _ _ _ _ _; refine rd_bm0L (by array_mem_dec) ?_) | apply rd_sfld | apply rd_aug | apply rd_rAdd | apply rd_brk | apply rd_cont
  | apply rd_for | apply rd_iList | (show IList _ _ _ _; refine rd_IList (by decreasing_trivial_pre_omega) ?_) | apply rd_iTup | (show ITup _ _ _ _; refine rd_ITup (by decreasing_trivial_pre_omega) ?_) | apply rd_iEnum | (show IEnum _ _ _ _; refine rd_IEnum (by decreasing_trivial_pre_omega) ?_) | apply rd_iRng1 | (show IRng1 _ _ _; refine rd_IRng1 (by sizeOf_list_dec) (by sizeOf_list_dec) ?_)
  | (show rLenStr _ _ _; refine rd_lenS (by array_get_dec) ?_) | (show rAddStr _ _ _ _; refine rd_addS (by array_get_dec) ?_) | (show rSlS _ _ _ _ _; refine rd_slS (by array_get_dec) ?_) | apply rd_lc | apply rd_yes | (show gTup _ _ _ _ _ _ _; refine rd_gtup (by decreasing_trivial_pre_omega) (by with_unfolding_all rfl) ?_) | (show tMakeL _ _ _ _ _ _ _ _; refine rd_makeL (by with_unfolding_all rfl) ?_))
local macro_rules | `(tactic| kas_types) => `(tactic| with_reducible first | apply rd_isi_int_int | apply rd_isi_int_bool | apply rd_isi_int_str | apply rd_isi_int_list | apply rd_isi_int_tuple | apply rd_isi_bool_int | apply rd_isi_bool_bool | apply rd_isi_bool_str | apply rd_isi_bool_list | apply rd_isi_bool_tuple | apply rd_isi_str_int | apply rd_isi_str_bool | apply rd_isi_str_str | apply rd_isi_str_list | apply rd_isi_str_tuple | (show rIsi _ _ _ _; refine rd_isi_list_int (by array_mem_dec) ?_) | (show rIsi _ _ _ _; refine rd_isi_list_bool (by array_mem_dec) ?_) | (show rIsi _ _ _ _; refine rd_isi_list_str (by array_mem_dec) ?_) | (show rIsi _ _ _ _; refine rd_isi_list_list (by array_mem_dec) ?_) | (show rIsi _ _ _ _; refine rd_isi_list_tuple (by array_mem_dec) ?_) | (show rIsi _ _ _ _; refine rd_isi_tuple_int (by array_mem_dec) ?_) | (show rIsi _ _ _ _; refine rd_isi_tuple_bool (by array_mem_dec) ?_) | (show rIsi _ _ _ _; refine rd_isi_tuple_str (by array_mem_dec) ?_) | (show rIsi _ _ _ _; refine rd_isi_tuple_list (by array_mem_dec) ?_) | (show rIsi _ _ _ _; refine rd_isi_tuple_tuple (by array_mem_dec) ?_) | apply rd_isi_NoneType_int | apply rd_isi_NoneType_bool | apply rd_isi_NoneType_str | apply rd_isi_NoneType_list | apply rd_isi_NoneType_tuple)
local macro_rules | `(tactic| lcg_src) => `(tactic| repeat keq_rows)

theorem _root_.Hk.Grow.hide {F H F0 H0 F' H' : Hp} {x : Addr} (g : Grow [] F H F0 H0) (b : Grow [x] F0 H0 F' H') (n : H x = none) : Grow [] F H F' H' :=
  ⟨g.ff.trans b.ff, b.fh, fun c o _ e => b.hh c o (by have := ne_of_none e n; simpa using this) (g.hh c o (by simp) e), fun c f h => let z := g.own c f h; b.own c z.1 z.2⟩
theorem Err.of {C : Addr} {f : Str} {v : V} {H H1 : Hp} {E : XK} (h : Err C f v H E) (s : Same H H1) : Err C f v H1 E := fun d H' s' n e => h d H' (s.trans s') (s.free n) e
theorem FamWords.imp {xs : List V} {ds : List PyData} {H H1 : Hp} {E : XK} {C : Addr} {good good' : List (List Nat) → Prop} (h : FamWords xs ds H E C good) (s : Same H H1) (i : ∀ ws, good ws → good' ws) : FamWords xs ds H1 E C good' := by
  rcases h with ⟨ws, h1, h2, h3⟩ | ⟨j, x, d, h1, h2, h3, h4, h5⟩
  · exact .inl ⟨ws, h1, h2, i ws h3⟩
  · exact .inr ⟨j, x, d, h1, h2, h3, h4, h5.of s⟩
def fF (q : Addr) : List (Str × V) := [("words", .ref q)]
theorem fF_words {q : Addr} : (fF q).lookup ("words" : Str) = some (.ref q) := by unfold fF; rw [List.lookup_cons_self]
section
variable {K : PySem.W.Frag} {mg : Str → Option Value} {a : Ad} {H : Hp} {Q : VK} {p dx q : Addr}
theorem fldF_words (T : Txt K mg a) (e : H p = some (.ins a.C_Family dx [("words", .ref q)])) (k : Q (.ref q) H) : FldK K "words" (.ref p) H Q := rd_fldK e T.cl_Family T.no_Family_words fF_words k
end
local macro_rules | `(tactic| lcg_sub) => `(tactic| with_reducible refine fldF_words (by assumption) (by array_mem_dec) ?_)
local macro_rules | `(tactic| lcg_off) => `(tactic| repeat (first | keq_rows | lcg_sub))
theorem sub_blt {K : PySem.W.Frag} {n : String} {ms : List Value} {C : Addr} (e : fastBuiltinMro n = some ms) (h : (ms.all fun v => match v with | .ref _ => false | _ => true) = true) : PySem.W.subIn K (.type n) (.ref C) = some false := by
  show (fastBuiltinMro n).map (·.contains (.ref C)) = some false
  rw [e]
  have : ms.contains (.ref C) = false := by
    apply Bool.eq_false_iff.mpr
    intro z
    have h1 := List.all_eq_true.mp h _ (List.contains_iff_mem.mp z)
    cases h1
  show some (ms.contains (.ref C)) = some false
  rw [this]
def blt6 : List String := ["NoneType", "bool", "int", "str", "list", "tuple"]
theorem sub_blt6 {K : PySem.W.Frag} {C : Addr} : ∀ n ∈ blt6, PySem.W.subIn K (.type n) (.ref C) = some false := by
  intro n hn
  simp only [blt6, List.mem_cons, List.not_mem_nil, or_false] at hn
  rcases hn with rfl | rfl | rfl | rfl | rfl | rfl
  · exact sub_blt (ms := [.type "NoneType", .type "object"]) (by decide +kernel) (by decide +kernel)
  · exact sub_blt (ms := [.type "bool", .type "int", .type "object"]) (by decide +kernel) (by decide +kernel)
  · exact sub_blt (ms := [.type "int", .type "object"]) (by decide +kernel) (by decide +kernel)
  · exact sub_blt (ms := [.type "str", .type "object"]) (by decide +kernel) (by decide +kernel)
  · exact sub_blt (ms := [.type "list", .type "object"]) (by decide +kernel) (by decide +kernel)
  · exact sub_blt (ms := [.type "tuple", .type "object"]) (by decide +kernel) (by decide +kernel)
theorem tyX_dp {K : PySem.W.Frag} {H : Hp} {x : V} {d : PyData} (h : Dp K H x d) : ∃ n ∈ blt6, TyX K H x (.type n) := by
  cases h with
  | non => exact ⟨"NoneType", by decide, .base .non⟩
  | bl b => exact ⟨"bool", by decide, .base (.bl b)⟩
  | int i => exact ⟨"int", by decide, .base (.int i)⟩
  | str s => exact ⟨"str", by decide, .base (.str s)⟩
  | lst hs ha =>
    refine ⟨"list", by decide, ?_⟩
    rcases hs with (h | ⟨o, h⟩) | ⟨o, its, n, h1, h2, _⟩
    · exact .base (.lst h)
    · exact .base (.frz h)
    · exact .kList h1 h2
  | tup hs ha =>
    refine ⟨"tuple", by decide, ?_⟩
    rcases hs with (h | ⟨o, h⟩) | ⟨o, its, n, h1, h2, _⟩
    · exact .base (.tup h)
    · exact .fTuple h
    · exact .kTuple h1 h2
section
variable {P : Program} {w : World} {K : PySem.W.Frag} {mg : Str → Option Value} {base : Heap} {a : Ad}
/-- a family is made, or the first wrong word is told -/
theorem make_fam {E : XK} {F H : Hp} {Q : Addr → Hp → Prop} {q : Addr} {xs : List V} {ds : List PyData} (fh : Same F H) (hq : SqL K H q xs ∨ SqT K H q xs) (hD : DpAll K F xs ds) (hS : ∀ d ∈ ds, SeqAt.shaped d = true)
    (h : FamWords xs ds H E a.C_BadFamily fun ws => ∀ F' H' p, Grow [] F H F' H' → FamAt a F' p (fam ws) → Q p H') :
    ∀ x dx, H x = none → H dx = none → dx ≠ x → sp_Family_init a K [.ref x, .ref q] (upd (upd H dx (.own x)) x (.ins a.C_Family dx [])) (fun v H2 => v = .non ∧ Q x H2) E := by
  intro x dx nx ndx ne
  have h1 : (upd H dx (.own x)) x = none := upd_oldN ne.symm nx
  have g1 := (Grow.refl (S := []) fh).new (o := .own x) ndx
  have g2 := g1.newO (o := .ins a.C_Family dx []) h1
  have fx : upd F dx (.own x) x = none := upd_oldN ne.symm (fh.free nx)
  refine ⟨_, x, dx, q, xs, ds, rfl, g2.fh, ⟨fx, upd_same⟩, seqX hq g2.same, hD.mono g2.ff, hS, h.imp g2.same fun ws k F' H' T g hx hT => ⟨rfl, ?_⟩⟩
  have g3 := (g2.hide g nx).frz hx.h hx.f nx
  have nT : T ≠ x := fun e => by rw [e, hx.f] at hT; cases hT
  exact k _ _ x g3 ⟨dx, T, upd_same, upd_old nT hT⟩
/-- Family.of behind its star -/
def sp_of0 (a : Ad) (K : PySem.W.Frag) : Sp := fun vs H Q E => ∃ (F : Hp) (q : Addr) (xs : List V) (ds : List PyData), vs = [.ref a.C_Family, .ref q] ∧ Same F H ∧ SqT K H q xs ∧ DpAll K F xs ds ∧ (∀ d ∈ ds, SeqAt.shaped d = true) ∧
  FamWords xs ds H E a.C_BadFamily fun ws => ∀ F' H' p, Grow [] F H F' H' → FamAt a F' p (fam ws) → Q (.ref p) H'
def sp_Family_of (a : Ad) (K : PySem.W.Frag) : Sp := fun vs H Q E => ∃ ws rest, vs = ws ++ rest ∧ ws.length = ["cls"].length ∧ rest.length ≤ sizeLine ∧ ∀ p, H p = Option.none → sp_of0 a K (ws ++ [V.ref p]) (upd H p (.tup rest)) Q E
theorem okR_Family_of (T : Txt K mg a) : FnR P w K mg base (CX P w) 5 a.f_Family_of (sp_Family_of a K) := by
  obtain ⟨oc, od, kV, doc, pm, an, cdv, ct, osl, e, lk, hcd⟩ := T.F_Family_of.ex
  rw [e] at lk
  refine StX.fn_star (ps := ["cls"]) (pv := "words") lk hcd sc_Family_of StX.cxUp (fun us rest hl => StX.bind_star1 (B := fun l => bindArgs _ ⟨l, []⟩) (fun _ => rfl) (fun _ _ _ => rfl) us rest hl) fun A outer s H vs Q E hr h => ?_
  obtain ⟨F, q, xs, ds, rfl, fh, hq, hD, hS, h⟩ := h
  refine ⟨_, ((pss_one (ps_ret (pe_makeL (i := 0) T.mk_Family (ok_Family_init T) hr rfl (Or.inl rfl) T.b_Family_init (passes_call (takes_of rfl rfl rfl rfl) (fun _ _ _ _ h => h)) (pa_cons (pv 1) pa_nil))))), ?_⟩
  try simp only [cxK]
  lcg_off
  exact make_fam fh (.inr hq) hD hS h
theorem of_fam {E : XK} {F H : Hp} {Q : VK} {xs : List V} {ds : List PyData} (fh : Same F H) (hl : xs.length ≤ 1000) (hD : DpAll K F xs ds) (hS : ∀ d ∈ ds, SeqAt.shaped d = true)
    (h : FamWords xs ds H E a.C_BadFamily fun ws => ∀ F' H' p, Grow [] F H F' H' → FamAt a F' p (fam ws) → Q (.ref p) H') : sp_Family_of a K (.ref a.C_Family :: xs) H Q E := by
  refine ⟨[.ref a.C_Family], xs, rfl, rfl, Nat.le_of_lt (small1000 hl), fun p hp => ?_⟩
  have g1 := (Grow.refl (S := []) fh).new (o := .tup xs) hp
  exact ⟨_, p, xs, ds, rfl, g1.fh, sqT_of upd_same, hD.mono g1.ff, hS, h.imp g1.same fun ws k F' H' p g hf => k F' H' p (g1.trans g) hf⟩
def sp_Family_len (a : Ad) : Sp := fun vs H Q _ => ∃ (F : Hp) (p : Addr) (ws : List (List Nat)), vs = [.ref p] ∧ Same F H ∧ FamAt a F p ws ∧ Q (.int (ws.length : Nat)) H
theorem ok_Family_len (T : Txt K mg a) : FnOk P w K mg base CX0 1 a.f_Family_len a.fd_Family_len ["self"]  (sp_Family_len a) := by
  refine T.F_Family_len.ok sc_Family_len (fun vs H Q E h => ?_) (fun cdv A outer s H vs Q E hr h => ?_)
  · obtain ⟨_, _, _, rfl, _⟩ := h
    rfl
  · obtain ⟨F, p, ws, rfl, fh, h1, k⟩ := h
    obtain ⟨dx, q, hp, hq⟩ := h1.ex
    have hp := fh _ _ hp
    have hq := fh _ _ hq
    refine ⟨_, ((pss_one (ps_ret (pe_callB call_lenSeq (by rfl) T.n_len (by decide +kernel) (pa_cons (pe_fld (pv 0) rfl) pa_nil))))), ?_⟩
    try simp only [cxK]
    lcg_off
    rw [List.length_map]
    exact k
def sp_Family_bool (a : Ad) : Sp := fun vs H Q _ => ∃ (F : Hp) (p : Addr) (ws : List (List Nat)), vs = [.ref p] ∧ Same F H ∧ FamAt a F p ws ∧ Q (.bl (decide (0 < ws.length))) H
theorem ok_Family_bool (T : Txt K mg a) : FnOk P w K mg base CX0 1 a.f_Family_bool a.fd_Family_bool ["self"]  (sp_Family_bool a) := by
  refine T.F_Family_bool.ok sc_Family_bool (fun vs H Q E h => ?_) (fun cdv A outer s H vs Q E hr h => ?_)
  · obtain ⟨_, _, _, rfl, _⟩ := h
    rfl
  · obtain ⟨F, p, ws, rfl, fh, h1, k⟩ := h
    obtain ⟨dx, q, hp, hq⟩ := h1.ex
    have hp := fh _ _ hp
    have hq := fh _ _ hq
    refine ⟨_, ((pss_one (ps_ret (pe_cmpR op_gt (pe_callB call_lenSeq (by rfl) T.n_len (by decide +kernel) (pa_cons (pe_fld (pv 0) rfl) pa_nil)) pe_int (nomark _))))), ?_⟩
    try simp only [cxK]
    lcg_off
    rw [List.length_map]
    have e : decide ((ws.length : Int) > 0) = decide (0 < ws.length) := by
      rcases Nat.eq_zero_or_pos ws.length with z | z
      · rw [z]; rfl
      · rw [decide_eq_true z]
        exact decide_eq_true (by omega)
    rw [e]
    exact k
def sp_Family_eq (a : Ad) (K : PySem.W.Frag) : Sp := fun vs H Q _ => ∃ (F : Hp) (p p2 : Addr) (ws vs' : List (List Nat)), vs = [.ref p, .ref p2] ∧ Same F H ∧ FamAt a F p ws ∧ FamAt a F p2 vs' ∧ (∀ w ∈ ws, w ∈ LICS) ∧ (∀ w ∈ vs', w ∈ LICS) ∧ Q (.bl (decide (ws = vs'))) H
theorem ok_Family_eq (T : Txt K mg a) : FnOk P w K mg base CX0 1 a.f_Family_eq a.fd_Family_eq ["self", "other"]  (sp_Family_eq a K) := by
  refine T.F_Family_eq.ok sc_Family_eq (fun vs H Q E h => ?_) (fun cdv A outer s H vs Q E hr h => ?_)
  · obtain ⟨_, _, _, _, _, rfl, _⟩ := h
    rfl
  · obtain ⟨F, p, p2, ws, vs', rfl, fh, h1, h2, hw, hv, k⟩ := h
    obtain ⟨dx, q, hp, hq⟩ := h1.ex
    have hp := fh _ _ hp
    have hq := fh _ _ hq
    obtain ⟨dx2, q2, hp2, hq2⟩ := h2.ex
    have hp2 := fh _ _ hp2
    have hq2 := fh _ _ hq2
    refine ⟨_, ((pss_one (ps_ret (pe_and (pe_callB call_isi (by rfl) T.n_isinstance (by decide +kernel) (pa_cons (pv 1) (pa_cons (pe_glob (v := .ref _) rfl T.g_Family rfl) pa_nil))) (pe_one (pe_cmpR (op_eqD hr.units) (pe_fld (pv 0) rfl) (pe_fld (pv 1) rfl) (nomark _))))))), ?_⟩
    try simp only [cxK]
    lcg_off
    refine rd_isi_own T.ty_Family hp2 ?_
    lcg_off
    refine iteT ?_
    lcg_off
    refine rd_eqWT (sqT_of hq) (sqT_of hq2) (fun w h => lics_okT w (hw w h)) (fun w h => lics_okT w (hv w h)) ?_
    exact k
def sp_Family_repr (a : Ad) : Sp := fun vs H Q _ => ∃ (F : Hp) (p : Addr) (ws : List (List Nat)), vs = [.ref p] ∧ Same F H ∧ FamAt a F p ws ∧ (∀ w ∈ ws, w ∈ LICS) ∧ ws.length ≤ 10 ∧ Q (.str (tx ([70, 97, 109, 105, 108, 121, 40] ++ TL.joinL [44, 32] ws ++ [41]))) H
theorem famO_tx : Str.ofString "Family(" = tx [70, 97, 109, 105, 108, 121, 40] := by decide +kernel
theorem comma_tx : Str.ofString ", " = tx [44, 32] := by decide +kernel
theorem close_tx : Str.ofString ")" = tx [41] := by decide +kernel
theorem lic_short : ∀ w ∈ LICS, w.length ≤ 5 := by decide
theorem sum_short : ∀ ws : List (List Nat), (∀ w ∈ ws, w ∈ LICS) → (ws.map (·.length)).sum ≤ 5 * ws.length
  | [], _ => by simp
  | x :: ws, h => by
    have h1 := sum_short ws fun w hw => h w (List.mem_cons_of_mem _ hw)
    have h2 := lic_short x (h x (List.mem_cons_self ..))
    rw [List.map_cons, List.sum_cons, List.length_cons]
    omega
theorem ok_Family_repr (T : Txt K mg a) : FnOk P w K mg base CX0 1 a.f_Family_repr a.fd_Family_repr ["self"]  (sp_Family_repr a) := by
  refine T.F_Family_repr.ok sc_Family_repr (fun vs H Q E h => ?_) (fun cdv A outer s H vs Q E hr h => ?_)
  · obtain ⟨_, _, _, rfl, _⟩ := h
    rfl
  · obtain ⟨F, p, ws, rfl, fh, h1, hw, hl, k⟩ := h
    obtain ⟨dx, q, hp, hq⟩ := h1.ex
    have hp := fh _ _ hp
    have hq := fh _ _ hq
    refine ⟨_, ((pss_one (ps_ret (pe_joined (.cons pe_str (.cons (pe_fmt (pe_joinR (K := K) pe_str (pe_fld (pv 0) rfl))) (.cons pe_str .nil))))))), ?_⟩
    try simp only [cxK, famO_tx, comma_tx, close_tx, empty_tx]
    have hs := sum_short ws hw
    have hj := joinL_len [44, 32] ws
    have e2 : ([44, 32] : List Nat).length = 2 := rfl
    rw [e2] at hj
    lcg_off
    refine rd_joinW (.inr (sqT_of hq)) (by rw [e2]; omega) ?_
    lcg_off
    exact k
def sp_Family_contains (a : Ad) (K : PySem.W.Frag) : Sp := fun vs H Q _ => ∃ (F : Hp) (p : Addr) (x : V) (d : PyData) (ws : List (List Nat)), vs = [.ref p, x] ∧ Same F H ∧ FamAt a F p ws ∧ Dp K F x d ∧ SeqAt.shaped d = true ∧ SeqAt.shaped (.tuple (ws.map sD)) = true ∧ Q (.bl ((ws.map sD).any fun z => PyData.eqv z d)) H
theorem ok_Family_contains (T : Txt K mg a) : FnOk P w K mg base CX0 1 a.f_Family_contains a.fd_Family_contains ["self", "x"]  (sp_Family_contains a K) := by
  refine T.F_Family_contains.ok sc_Family_contains (fun vs H Q E h => ?_) (fun cdv A outer s H vs Q E hr h => ?_)
  · obtain ⟨_, _, _, _, _, rfl, _⟩ := h
    rfl
  · obtain ⟨F, p, x, d, ws, rfl, fh, h1, hD, hS, hT, k⟩ := h
    obtain ⟨dx, q, hp, hq⟩ := h1.ex
    have hp := fh _ _ hp
    have hq := fh _ _ hq
    refine ⟨_, ((pss_cons (ps_if (pt_val (pe_callB call_isi (by rfl) T.n_isinstance (by decide +kernel) (pa_cons (pv 1) (pa_cons (pe_glob (v := .ref _) rfl T.g_World rfl) pa_nil))))
 (pss_one ps_never)
 pss_nil)
 (pss_one (ps_ret (pe_cmpR (op_inDT (units65 hr)) (pv 1) (pe_fld (pv 0) rfl) (by rfl)))))), ?_⟩
    try simp only [cxK]
    lcg_off
    obtain ⟨n, hn, ht⟩ := tyX_dp (hD.mono fh)
    refine rd_isi (.own _) ht (T.ty_World.kit (sub_blt6 n hn) rfl) ?_
    lcg_off
    refine ifF rfl ?_
    lcg_off
    exact ⟨d, ws.map sD, hD.mono fh, .tup (sqT_of hq) (sD_all ws), hS, hT, k⟩
end
section
variable {X : Cx} {a : Ad}
theorem own_Family_len (T : Txt X.K X.mg a) : Own X a.C_Family "__len__" 1 (sp_Family_len a) E0 := ⟨_, _, _, CX0, ok_Family_len T, T.m_Family_len.at_, T.m_Family_len.fn, T.b_Family_len, pass0⟩
theorem own_Family_bool (T : Txt X.K X.mg a) : Own X a.C_Family "__bool__" 1 (sp_Family_bool a) E0 := ⟨_, _, _, CX0, ok_Family_bool T, T.m_Family_bool.at_, T.m_Family_bool.fn, T.b_Family_bool, pass0⟩
theorem own_Family_eq (T : Txt X.K X.mg a) : Own X a.C_Family "__eq__" 1 (sp_Family_eq a X.K) E0 := ⟨_, _, _, CX0, ok_Family_eq T, T.m_Family_eq.at_, T.m_Family_eq.fn, T.b_Family_eq, pass0⟩
theorem own_Family_repr (T : Txt X.K X.mg a) : Own X a.C_Family "__repr__" 1 (sp_Family_repr a) E0 := ⟨_, _, _, CX0, ok_Family_repr T, T.m_Family_repr.at_, T.m_Family_repr.fn, T.b_Family_repr, pass0⟩
theorem own_Family_contains (T : Txt X.K X.mg a) : Own X a.C_Family "__contains__" 1 (sp_Family_contains a X.K) E0 := ⟨_, _, _, CX0, ok_Family_contains T, T.m_Family_contains.at_, T.m_Family_contains.fn, T.b_Family_contains, pass0⟩
end
section
variable {K : PySem.W.Frag} {a : Ad} {F H : Hp} {p p2 : Addr} {ws vs : List (List Nat)} {Q : VK} {E : XK} {X : Cx}
theorem ask_len (fh : Same F H) (h1 : FamAt a F p ws) (hl : ws.length ≤ 10) (q : Q (.int (ws.length : Nat)) H) : rLenO a.C_Family (sp_Family_len a) E [.ref p] H Q := by
  obtain ⟨dx, l, hp, _⟩ := h1.ex
  exact ⟨p, dx, _, rfl, fh _ _ hp, F, p, ws, rfl, fh, h1, _, rfl, ⟨by omega, by omega⟩, q⟩
theorem ask_bool (fh : Same F H) (h1 : FamAt a F p ws) (q : Q (.bl (decide (0 < ws.length))) H) : rBoolO a.C_Family (sp_Family_bool a) E [.ref p] H Q := by
  obtain ⟨dx, l, hp, _⟩ := h1.ex
  exact ⟨p, dx, _, rfl, fh _ _ hp, F, p, ws, rfl, fh, h1, _, rfl, q⟩
theorem ask_repr (fh : Same F H) (h1 : FamAt a F p ws) (hw : ∀ w ∈ ws, w ∈ LICS) (hl : ws.length ≤ 10) (q : Q (.str (tx ([70, 97, 109, 105, 108, 121, 40] ++ TL.joinL [44, 32] ws ++ [41]))) H) : rReprO a.C_Family (sp_Family_repr a) E [.ref p] H Q := by
  obtain ⟨dx, l, hp, _⟩ := h1.ex
  exact ⟨p, dx, _, rfl, fh _ _ hp, F, p, ws, rfl, fh, h1, hw, hl, _, rfl, q⟩
theorem ask_in {x : V} {d : PyData} (fh : Same F H) (h1 : FamAt a F p ws) (hD : Dp K F x d) (hS : SeqAt.shaped d = true) (hT : SeqAt.shaped (.tuple (ws.map sD)) = true) (q : Q (.bl ((ws.map sD).any fun z => PyData.eqv z d)) H) : rInO a.C_Family (sp_Family_contains a K) E id x (.ref p) H Q := by
  obtain ⟨dx, l, hp, _⟩ := h1.ex
  exact ⟨p, dx, _, rfl, fh _ _ hp, F, p, x, d, ws, rfl, fh, h1, hD, hS, hT, _, rfl, q⟩
theorem ask_ne (fh : Same F H) (h1 : FamAt a F p ws) (h2 : FamAt a F p2 vs) (hw : ∀ w ∈ ws, w ∈ LICS) (hv : ∀ w ∈ vs, w ∈ LICS) (q : Q (.bl (!decide (ws = vs))) H) : rNeO X a.C_Family (sp_Family_eq a K) E (.ref p) (.ref p2) H Q := by
  obtain ⟨dx, l, hp, _⟩ := h1.ex
  obtain ⟨dx2, l2, hp2, _⟩ := h2.ex
  exact ⟨p, dx, _, rfl, fh _ _ hp, .inl ⟨p2, dx2, _, rfl, fh _ _ hp2⟩, F, p, p2, ws, vs, rfl, fh, h1, h2, hw, hv, _, rfl, q⟩
end
end Ex

namespace Ex
open PySem L2 Hk
local macro_rules | `(tactic| array_mem_dec) => `(tactic| with_reducible first
  | assumption | exact upd_same
  | (apply upd_new; assumption; array_mem_dec)
  | (apply upd_old; tlg_ne; array_mem_dec)
  | (apply same_at; assumption; array_mem_dec))
local macro_rules | `(tactic| tlg_ne) => `(tactic| with_reducible first
  | assumption | (apply Ne.symm; assumption)
  | (apply ne_new; assumption; array_mem_dec) | (apply ne_new'; assumption; array_mem_dec)
  | (apply ne_of; assumption; assumption; (with_unfolding_all (intro z; cases z; done))))
local macro_rules | `(tactic| decreasing_trivial_pre_omega) => `(tactic| with_reducible first
  | assumption | (apply sqL_of; array_mem_dec) | (apply sqT_of; array_mem_dec)
  | (apply Same.seq; assumption; decreasing_trivial_pre_omega) | (apply sqT_same; assumption; decreasing_trivial_pre_omega)
  | (apply sqL_new; assumption; decreasing_trivial_pre_omega) | (apply sqL_upd; tlg_ne; decreasing_trivial_pre_omega))
local macro_rules | `(tactic| kpt_turns) => `(tactic| with_reducible first
  | assumption | exact Same.refl _ | (apply same_ext; kpt_turns; assumption) | (apply same_mut; kpt_turns; keq_hits) | (apply same_step; assumption; kpt_turns))
local macro_rules | `(tactic| keq_hits) => `(tactic| with_reducible first | assumption | (apply same_none; assumption; keq_hits))
local macro_rules | `(tactic| sizeOf_list_dec) => `(tactic| first | (with_reducible assumption) | (with_reducible_and_instances omega) | (with_unfolding_all decide))
local macro_rules | `(tactic| array_get_dec) => `(tactic| first | (with_reducible assumption) | (apply sz_of; (with_unfolding_all simp); done) | (apply sz_of; omega) | (apply sz_lt; (with_unfolding_all simp); done) | (apply sz_lt; omega))
local macro_rules | `(tactic| keq_rows) => `(tactic| with_reducible first
  | apply rd_asgN | apply rd_seq | apply rd_parA | apply rd_par3A | apply rd_par2 | apply rd_par3 | apply rd_m1 | apply rd_isStr | apply rd_cval | apply rd_asg | apply rd_gname | apply rd_op | (show tVar _ _ _ _; refine rd_var (by with_unfolding_all rfl) ?_) | apply rd_c | apply rd_I0
  | apply rd_cons | apply rd_nil | apply rd_cb | apply rd_test | apply rd_bl | apply rd_fld | apply rd_drop | apply rd_ret | apply rd_retN | apply rd_next
  | apply rd_ifS | apply rd_un | apply rd_B | apply rd_and | apply rd_or | apply rd_not | apply rd_andV | apply rd_orV | apply rd_notV | apply rd_if
  | apply rd_int | apply rd_abs | apply rd_max | apply rd_min | apply rd_strS | apply rd_U
  | apply rd_eqTx | apply rd_neTx | apply rd_inTx | apply rd_notInTx | apply rd_fmt | (show FmtK (.str (tx _)) _ _; refine rd_fmtT (by omega) ?_) | apply rd_jsC | apply rd_jsN | (show JsK _ (tx _) _ (.str (tx _)) _ _; refine rd_JsK (by first | omega | (simp; done) | (simp; omega)) ?_) | (show rAddStr (.str (tx _)) (.str (tx _)) _ _; refine rd_addT (by first | omega | (simp; done) | (simp; omega)) ?_) | (show rLenStr [.str (tx _)] _ _; refine rd_lenTx (by omega) ?_)
  | (show rEq _ _ _ _; refine rd_eq (by with_unfolding_all rfl) ?_) | (show rNe _ _ _ _; refine rd_ne (by with_unfolding_all rfl) ?_) | apply rd_isNone | apply rd_notNone
  | (show rIxL _ _ _ _ _; refine rd_ixL (by decreasing_trivial_pre_omega) (by with_unfolding_all rfl) ?_) | (show rIxT _ _ _ _ _; refine rd_ixT (by decreasing_trivial_pre_omega) (by with_unfolding_all rfl) ?_)
  | (show rLenSeq _ _ _ _; refine rd_lenL (by decreasing_trivial_pre_omega) ?_) | (show rLenSeq _ _ _ _; refine rd_lenT (by decreasing_trivial_pre_omega) ?_)
  | (show rI _ _ _ _ _ _; refine rd_mod (by sizeOf_list_dec) ?_) | (show rI _ _ _ _ _ _; refine rd_div (by sizeOf_list_dec) (by sizeOf_list_dec) ?_) | (show rI _ _ _ _ _ _; refine rd_mulR (by sizeOf_list_dec) (by sizeOf_list_dec) ?_) | (show rI _ _ _ _ _ _; refine rd_mulL (by sizeOf_list_dec) (by sizeOf_list_dec) ?_) | (show rI _ _ _ _ _ _; refine rd_pow (by sizeOf_list_dec) ?_)
  | (show rSetL _ _ _ _ _; refine rd_setL (by array_mem_dec) (by with_unfolding_all rfl) ?_)
  | apply rd_inSign | apply rd_notInSign | apply rd_tupK | apply rd_lstK | apply rd_sl | apply rd_noPart | apply rd_part | apply rd_isInt
  | apply rd_gsub | apply rd_gcons | apply rd_gnil | apply rd_call | apply rd_meth | apply rd_make | apply rd_smeth | apply rd_isC | apply rd_smethK | apply rd_cmeth | apply rd_cmethK
  | apply rd_bm | apply rd_bm0 | (show BmK _ _ _ _ _ _ _ _; refine rd_bmL (by array_mem_dec) ?_) | (show Bm0K _ _ _ _ _ _; refine rd_bm0L (by array_mem_dec) ?_) | apply rd_sfld | apply rd_aug | apply rd_rAdd | apply rd_brk | apply rd_cont
  | apply rd_for | apply rd_iList | (show IList _ _ _ _; refine rd_IList (by decreasing_trivial_pre_omega) ?_) | apply rd_iTup | (show ITup _ _ _ _; refine rd_ITup (by decreasing_trivial_pre_omega) ?_) | apply rd_iEnum | (show IEnum _ _ _ _; refine rd_IEnum (by decreasing_trivial_pre_omega) ?_) | apply rd_iRng1 | (show IRng1 _ _ _; refine rd_IRng1 (by sizeOf_list_dec) (by sizeOf_list_dec) ?_)
  | (show rLenStr _ _ _; refine rd_lenS (by array_get_dec) ?_) | (show rAddStr _ _ _ _; refine rd_addS (by array_get_dec) ?_) | (show rSlS _ _ _ _ _; refine rd_slS (by array_get_dec) ?_) | apply rd_lc | apply rd_yes | (show gTup _ _ _ _ _ _ _; refine rd_gtup (by decreasing_trivial_pre_omega) (by with_unfolding_all rfl) ?_) | (show tMakeL _ _ _ _ _ _ _ _; refine rd_makeL (by with_unfolding_all rfl) ?_))
local macro_rules | `(tactic| kas_types) => `(tactic| with_reducible first | apply rd_isi_int_int | apply rd_isi_int_bool | apply rd_isi_int_str | apply rd_isi_int_list | apply rd_isi_int_tuple | apply rd_isi_bool_int | apply rd_isi_bool_bool | apply rd_isi_bool_str | apply rd_isi_bool_list | apply rd_isi_bool_tuple | apply rd_isi_str_int | apply rd_isi_str_bool | apply rd_isi_str_str | apply rd_isi_str_list | apply rd_isi_str_tuple | (show rIsi _ _ _ _; refine rd_isi_list_int (by array_mem_dec) ?_) | (show rIsi _ _ _ _; refine rd_isi_list_bool (by array_mem_dec) ?_) | (show rIsi _ _ _ _; refine rd_isi_list_str (by array_mem_dec) ?_) | (show rIsi _ _ _ _; refine rd_isi_list_list (by array_mem_dec) ?_) | (show rIsi _ _ _ _; refine rd_isi_list_tuple (by array_mem_dec) ?_) | (show rIsi _ _ _ _; refine rd_isi_tuple_int (by array_mem_dec) ?_) | (show rIsi _ _ _ _; refine rd_isi_tuple_bool (by array_mem_dec) ?_) | (show rIsi _ _ _ _; refine rd_isi_tuple_str (by array_mem_dec) ?_) | (show rIsi _ _ _ _; refine rd_isi_tuple_list (by array_mem_dec) ?_) | (show rIsi _ _ _ _; refine rd_isi_tuple_tuple (by array_mem_dec) ?_) | apply rd_isi_NoneType_int | apply rd_isi_NoneType_bool | apply rd_isi_NoneType_str | apply rd_isi_NoneType_list | apply rd_isi_NoneType_tuple)
local macro_rules | `(tactic| lcg_src) => `(tactic| repeat keq_rows)

local macro_rules | `(tactic| lcg_sub) => `(tactic| with_reducible refine fldF_words (by assumption) (by array_mem_dec) ?_)
local macro_rules | `(tactic| lcg_off) => `(tactic| repeat (first | keq_rows | lcg_sub))
theorem Grow.ofSame {F H H1 : Hp} (fh : Same F H) (s : Same H H1) : Grow [] F H F H1 :=
  ⟨Same.refl _, fh.trans s, fun c o _ e => s _ _ e, fun c x y => ⟨x, same_nn s y⟩⟩
theorem thaw {S : List Addr} {F H H' : Hp} {f : Addr} {o : HO} (n : F f = none) (g : Grow S (upd F f o) H (upd F f o) H') : Grow S F H F H' := by
  refine ⟨Same.refl _, (same_new n).trans g.fh, g.hh, fun c x y => ⟨x, ?_⟩⟩
  by_cases e : c = f
  · subst e
    rw [g.fh _ _ upd_same]
    intro z; cases z
  · exact (g.own c (upd_oldN e x) y).2
theorem frost {F H : Hp} {f : Addr} {o : HO} (fh : Same F H) (h : H f = some o) : Same (upd F f o) H := fun c u e => by
  by_cases q : c = f
  · subst q; rw [upd_same] at e; rw [← e]; exact h
  · rw [upd_ne q] at e; exact fh _ _ e
theorem rd_xfC {H : Hp} {Q : VK} {C dd : Addr} {f : Str} {v : V} (e : H dd = some (.xd [(f, v)])) (q : Q v H) : (Value.ref C) = .ref C ∧ ∃ (dd' : Addr) (fs : List (Str × V)) (v : V), (some dd) = some dd' ∧ H dd' = some (.xd fs) ∧ fs.lookup f = some v ∧ Q v H :=
  ⟨rfl, dd, _, v, rfl, e, by simp [List.lookup], q⟩
theorem kit_own {K : PySem.W.Frag} {C D : Addr} {b : Bool} (hd : PySem.W.hasDictIn K D = true) (ty : PySem.W.typeIn K (.ref D) = some (.type "type")) (hs : PySem.W.subIn K (.ref C) (.ref D) = some b) (self : PySem.W.subIn K (.ref C) (.ref C) = some true) : PySem.W.kitOne K (.ref C) (.ref D) = some b := by
  obtain ⟨cd, hcd, _⟩ := PySem.W.any_some hd
  unfold PySem.W.kitOne
  by_cases e : C = D
  · subst e
    rw [self] at hs
    cases hs
    simp
  · have e2 : (Value.ref C == Value.ref D) = false := Bool.eq_false_iff.mpr fun q => e (Value.ref.inj (beq_iff_eq.mp q))
    rw [e2, if_neg Bool.false_ne_true]
    unfold PySem.W.kitCls
    simp only [hcd, ty, Option.isSome_some, beq_self_eq_true, Bool.and_self, if_true]
    exact hs
theorem kit_blt {K : PySem.W.Frag} {C : Addr} {b : Bool} {n : String} (hm : PySem.W.kitMeta n = true) (hs : PySem.W.subIn K (.ref C) (.type n) = some b) : PySem.W.kitOne K (.ref C) (.type n) = some b := by
  have e2 : (Value.ref C == Value.type n) = false := Bool.eq_false_iff.mpr fun q => by cases beq_iff_eq.mp q
  unfold PySem.W.kitOne
  rw [e2, if_neg Bool.false_ne_true]
  unfold PySem.W.kitCls
  simp only [hm, if_true]
  exact hs
section
variable {K : PySem.W.Frag} {mg : Str → Option Value} {a : Ad}
theorem Txt.ex_bf (T : Txt K mg a) : PySem.W.exmOne K (.ref a.C_BadFamily) (.ref a.C_BadFamily) = some true := PySem.W.exm_ref T.sb_BadFamily T.xf_BadFamily.hdC T.ty_BadFamily T.su_bf
theorem Txt.ki_hb (T : Txt K mg a) : PySem.W.kitOne K (.ref a.C_BadFamily) (.ref a.C_HeirsbackError) = some true := kit_own T.xhd_hb T.ty_HeirsbackError T.su_hb T.su_bf
theorem Txt.ki_ve (T : Txt K mg a) : PySem.W.kitOne K (.ref a.C_BadFamily) (.type "ValueError") = some true := kit_blt (by decide +kernel) T.su_ve
end
theorem map_erase {ls : List (List Nat)} {k : Nat} : (ls.map wd).eraseIdx k = (ls.eraseIdx k).map wd := by
  induction ls generalizing k with
  | nil => simp
  | cons x ls ih =>
    cases k with
    | zero => simp
    | succ k => simp [ih]
section
variable {P : Program} {w : World} {K : PySem.W.Frag} {mg : Str → Option Value} {base : Heap} {a : Ad}
/-- one of some texts -/
theorem of_words {F H : Hp} {b : Addr} {l : Addr} {ws : List (List Nat)} {Q : VK} {E : XK} (hb : Bag F H b) (hl : F l = some (.lst (ws.map wd))) (h0 : 0 < ws.length) (h1 : ws.length < 1000) (k : ∀ x H', x ∈ ws → Grow [b] F H F H' → Bag F H' b → Q (.str (tx x)) H') : sp_law_of K [.ref b, .ref l] H Q E := by
  refine ⟨F, b, l, _, rfl, hb, sqL_of hl, by simpa using h0, by simpa using h1, fun i x H' e g h => ?_⟩
  rw [List.getElem?_map] at e
  cases hx : ws[i]? with
  | none => rw [hx] at e; cases e
  | some y =>
    rw [hx] at e
    cases e
    exact k y H' (List.mem_of_getElem? hx) g h
/-- one of some texts of one's own list -/
theorem of_own {F H : Hp} {b : Addr} {l : Addr} {ws : List (List Nat)} {Q : VK} {E : XK} (hb : Bag F H b) (hl : Hold F H l (.lst (ws.map wd))) (n : l ≠ b) (h0 : 0 < ws.length) (h1 : ws.length < 1000) (k : ∀ x H', x ∈ ws → Grow [b] F H F H' → Bag F H' b → Q (.str (tx x)) H') : sp_law_of K [.ref b, .ref l] H Q E := by
  have hb' : Bag (upd F l (.lst (ws.map wd))) H b := ⟨frost hb.fh hl.h, upd_oldN n.symm hb.fb, hb.hb⟩
  refine of_words hb' upd_same h0 h1 fun x H' hx g h => k x H' hx (thaw hl.f g) ?_
  exact ⟨(thaw hl.f g).fh, hb.fb, h.hb⟩
def sp_law_licences : Sp := fun vs H Q _ => ∃ F, vs = [] ∧ Same F H ∧ ∀ H' p, Grow [] F H F H' → H p = none → Hold F H' p (.lst (LICS.map wd)) → Q (.ref p) H'
theorem ok_law_licences (T : Txt K mg a) : FnOk P w K mg base CX0 1 a.f_law_licences a.fd_law_licences []  sp_law_licences := by
  refine T.F_law_licences.ok sc_law_licences (fun vs H Q E h => ?_) (fun cdv A outer s H vs Q E hr h => ?_)
  · obtain ⟨_, rfl, _⟩ := h
    rfl
  · obtain ⟨F, rfl, fh, k⟩ := h
    refine ⟨_, ((pss_one (ps_ret (pe_lst (pa_cons pe_str (pa_cons pe_str (pa_cons pe_str (pa_cons pe_str (pa_cons pe_str (pa_cons pe_str (pa_cons pe_str (pa_cons pe_str (pa_cons pe_str (pa_cons pe_str pa_nil)))))))))))))), ?_⟩
    try simp only [cxK]
    lcg_off
    refine newO fh fun H' p g n h => ?_
    rw [lics_eq] at h
    exact k H' p g n h
/-- a list of all licences, frozen -/
theorem lics_frz {F H : Hp} {Q : VK} {E : XK} (fh : Same F H) (k : ∀ F' H' p, Grow [] F H F' H' → H p = none → F' p = some (.lst (LICS.map wd)) → Q (.ref p) H') : sp_law_licences [] H Q E :=
  ⟨F, rfl, fh, fun H' p g n h => k _ H' p (g.frz h.h h.f n) n upd_same⟩
def sp_law_some : Sp := fun vs H Q _ => ∃ (F : Hp) (b : Addr), vs = [.ref b] ∧ Bag F H b ∧
  ∀ H' p (ws : List (List Nat)), (∀ w ∈ ws, w ∈ LICS) → ws.length ≤ 20 → H p = none → Grow [b] F H F H' → Bag F H' b → Hold F H' p (.lst (ws.map wd)) → Q (.ref p) H'
theorem ok_law_some (T : Txt K mg a) : FnOk P w K mg base CX0 3 a.f_law_some a.fd_law_some ["_law_bag_here"]  sp_law_some := by
  refine T.F_law_some.ok sc_law_some (fun vs H Q E h => ?_) (fun cdv A outer s H vs Q E hr h => ?_)
  · obtain ⟨_, _, rfl, _⟩ := h
    rfl
  · obtain ⟨F, b, rfl, hb, k⟩ := h
    refine ⟨_, ((pss_cons (ps_par (i := 1) (j := 2) (by rfl) sc_law_some.nd rfl rfl (by decide) rfl rfl (pa_cons (pe_lst pa_nil) (pa_cons (pe_call0 (ok_law_licences T) (hr.mono (by decide)) rfl T.g_law_licences T.F_law_licences.kp T.b_law_licences .nil pass0) pa_nil)) (by rfl))
 (pss_cons (ps_for PassesOwn.never rfl (pi_range1 rfl T.n_range (pa_cons (pe_call (ok_law_take T) (hr.mono (by decide)) rfl T.g_law_take T.F_law_take.kp T.b_law_take .nil pass0 (pa_cons (pv 0) (pa_cons pe_int pa_nil))) pa_nil)) (pg_name (i := 3) sc_law_some.nd rfl (Or.inl rfl))
 (pss_cons (ps_expr (pe_bm PySem.F.plainAttrs_list PySem.F.slot_list_append PySem.F.type_list_append mt_append (pv 1) (pa_cons (pe_bm PySem.F.plainAttrs_list PySem.F.slot_list_pop PySem.F.type_list_pop mt_popAt (pv 2) (pa_cons (pe_call (ok_law_take T) (hr.mono (by decide)) rfl T.g_law_take T.F_law_take.kp T.b_law_take .nil pass0 (pa_cons (pv 0) (pa_cons (pe_callB call_lenSeq (by rfl) T.n_len (by decide +kernel) (pa_cons (pv 2) pa_nil)) pa_nil))) pa_nil)) pa_nil)))
 (pss_one (ps_if (pt_cmpR op_eq (pe_call (ok_law_take T) (hr.mono (by decide)) rfl T.g_law_take T.F_law_take.kp T.b_law_take .nil pass0 (pa_cons (pv 0) (pa_cons pe_int pa_nil))) pe_int (nomark _))
 (pss_one (ps_expr (pe_bm PySem.F.plainAttrs_list PySem.F.slot_list_append PySem.F.type_list_append mt_append (pv 1) (pa_cons (pe_call (ok_law_of T) hr rfl T.g_law_of T.F_law_of.kp T.b_law_of .nil pass0 (pa_cons (pv 0) (pa_cons (pv 1) pa_nil))) pa_nil))))
 pss_nil))))
 (pss_one (ps_ret (pv 1)))))), ?_⟩
    try simp only [cxK]
    lcg_off
    refine newO hb.fh fun H1 f g1 nf hf => ?_
    have hb1 := hb.go0 g1
    have nfb : f ≠ b := fun e => hb.nn (e ▸ nf)
    lcg_off
    refine ⟨F, rfl, hb1.fh, fun H2 L g2 nL hL => ?_⟩
    have hb2 := hb1.go0 g2
    have hf2 := hf.go0 g2
    have nLb : L ≠ b := fun e => hb1.nn (e ▸ nL)
    have nLf : L ≠ f := fun e => by rw [e, hf.h] at nL; cases nL
    have nL0 : H L = none := g1.free nL
    lcg_off
    refine take_ok hb2 (by decide) (by decide) fun n H3 hn g3 hb3 => ?_
    have hf3 := hf2.goB g3 nfb
    have hL3 := hL.goB g3 nLb
    have g13 : Grow [b] F H F H3 := (g1.trans g2).weak.trans g3
    lcg_off
    refine fk_range (fun i σ H' => ∃ (ws ls : List (List Nat)) (u : Option V), σ = [some (.ref b), some (.ref f), some (.ref L), u] ∧ (∀ w ∈ ws, w ∈ LICS) ∧ (∀ w ∈ ls, w ∈ LICS) ∧ ws.length ≤ 2 * i ∧ ls.length = 10 - i ∧ Grow [b] F H F H' ∧ Bag F H' b ∧ Hold F H' f (.lst (ws.map wd)) ∧ Hold F H' L (.lst (ls.map wd)))
      ⟨[], LICS, none, rfl, by simp, fun w h => h, by simp, rfl, g13, hb3, hf3, hL3⟩ ?_ ?_
    · rintro i σ H4 hi ⟨ws, ls, u, rfl, hw, hls, hwl, hll, g4, hb4, hf4, hL4⟩
      have hi10 : i < 10 := by omega
      have hf4h := hf4.h
      have hL4h := hL4.h
      lcg_off
      refine take_ok (n := ((ls.map wd).length : Nat)) hb4 (by rw [List.length_map]; omega) (by rw [List.length_map]; omega) fun j H5 hj0 g5 hb5 => ?_
      rw [List.length_map] at hj0
      have hj : j < ls.length := by omega
      have hf5 := hf4.goB g5 nfb
      have hL5 := hL4.goB g5 nLb
      lcg_off
      refine rd_popAt hL5.h (y := wd ls[j]) (by rw [List.getElem?_map, List.getElem?_eq_getElem hj]; rfl) (by rw [List.length_map]; omega) ?_
      rw [map_erase]
      have g6 := (g4.trans g5).mut (o := .lst ((ls.eraseIdx j).map wd)) hL5.f (.inr nL0)
      have hb6 := hb5.mut (u := .lst ((ls.eraseIdx j).map wd)) hL5 nLb
      have hf6 := hf5.other (u := .lst ((ls.eraseIdx j).map wd)) nLf.symm
      have hL6 := hL5.put (u := .lst ((ls.eraseIdx j).map wd))
      lcg_off
      refine rd_append hf6.h (sz_lt (by rw [List.length_map]; omega)) ?_
      have e1 : ws.map wd ++ [wd ls[j]] = (ws ++ [ls[j]]).map wd := by simp
      rw [e1]
      have hw1 : ∀ w ∈ ws ++ [ls[j]], w ∈ LICS := fun w h => by
        rcases List.mem_append.mp h with h | h
        · exact hw w h
        · rw [List.mem_singleton.mp h]
          exact hls _ (List.getElem_mem hj)
      have hls1 : ∀ w ∈ ls.eraseIdx j, w ∈ LICS := fun w h => hls w (List.mem_of_mem_eraseIdx h)
      have hwl1 : (ws ++ [ls[j]]).length ≤ 2 * i + 1 := by simp; omega
      have hpos : 0 < (ws ++ [ls[j]]).length := by simp
      have hll1 : (ls.eraseIdx j).length = 10 - (i + 1) := by rw [List.length_eraseIdx, if_pos hj]; omega
      generalize ws ++ [ls[j]] = ws1 at hw1 hwl1 hpos
      generalize ls.eraseIdx j = ls1 at *
      have g7 := g6.mut (o := .lst (ws1.map wd)) hf6.f (.inr nf)
      have hb7 := hb6.mut (u := .lst (ws1.map wd)) hf6 nfb
      have hL7 := hL6.other (u := .lst (ws1.map wd)) nLf
      have hf7 := hf6.put (u := .lst (ws1.map wd))
      lcg_off
      refine take_ok hb7 (by decide) (by decide) fun r H8 hr8 g8 hb8 => ?_
      have hf8 := hf7.goB g8 nfb
      have hL8 := hL7.goB g8 nLb
      have hf8h := hf8.h
      lcg_off
      refine ifD (fun c => ?_) (fun c => ?_)
      · lcg_off
        refine of_own hb8 hf8 nfb hpos (by omega) fun x H9 hx g9 hb9 => ?_
        have hf9 := hf8.goB g9 nfb
        have hL9 := hL8.goB g9 nLb
        lcg_off
        refine rd_append hf9.h (sz_lt (by rw [List.length_map]; omega)) ?_
        have e2 : ws1.map wd ++ [V.str (tx x)] = (ws1 ++ [x]).map wd := by simp [wd]
        rw [e2]
        refine ⟨ws1 ++ [x], ls1, _, rfl, ?_, hls1, by simp; omega, hll1, ((g7.trans g8).trans g9).mut hf9.f (.inr nf), hb9.mut hf9 nfb, hf9.put, hL9.other nLf⟩
        intro w h
        rcases List.mem_append.mp h with h | h
        · exact hw1 w h
        · rw [List.mem_singleton.mp h]
          exact hw1 _ hx
      · lcg_off
        exact ⟨ws1, ls1, _, rfl, hw1, hls1, by omega, hll1, g7.trans g8, hb8, hf8, hL8⟩
    · rintro σ H4 ⟨ws, ls, u, rfl, hw, hls, hwl, hll, g4, hb4, hf4, hL4⟩
      lcg_off
      exact k H4 f ws hw (by omega) nf g4 hb4 hf4
def sp_law_sorted (K : PySem.W.Frag) : Sp := fun vs H Q _ => ∃ (F : Hp) (l : Addr) (ws : List (List Nat)), vs = [.ref l] ∧ Same F H ∧ SqL K F l (ws.map wd) ∧ ∀ F' H' p, Grow [] F H F' H' → F' p = some (.lst ((fam ws).map wd)) → Q (.ref p) H'
theorem ok_law_sorted (T : Txt K mg a) : FnOk P w K mg base CX0 2 a.f_law_sorted a.fd_law_sorted ["_law_words"]  (sp_law_sorted K) := by
  refine T.F_law_sorted.ok sc_law_sorted (fun vs H Q E h => ?_) (fun cdv A outer s H vs Q E hr h => ?_)
  · obtain ⟨_, _, _, rfl, _⟩ := h
    rfl
  · obtain ⟨F, l, ws, rfl, fh, hl, k⟩ := h
    refine ⟨_, ((pss_one (ps_ret (pe_lc (own := [("_law_one", 1)]) (g := gName 1) rfl sc_law_sorted.nd (pi_list (pe_call0 (ok_law_licences T) hr rfl T.g_law_licences T.F_law_licences.kp T.b_law_licences .nil pass0)) (blkOk_by (own := [("_law_one", 1)]) (N := ["_law_words", "_law_one"]) (sc := defScope s_law_sorted) (by decide +kernel)) (fun _ _ _ _ _ => (pg_name (i := 1) sc_law_sorted.nd rfl (Or.inl rfl))) (fun _ _ _ _ _ => (pts_one (pt_cmpR (op_inSeqK (K := K)) (pv 1) (pv 0) (by rfl)))) (fun _ _ _ _ _ => (pv 1)))))), ?_⟩
    try simp only [cxK]
    lcg_off
    refine lics_frz fh fun F1 H1 p g1 np hp => ?_
    lcg_off
    refine rd_IList (sqL_of (g1.fh _ _ hp)) ?_
    refine lcPL (xs := LICS.map wd) (fun j F' acc => acc = ((LICS.take j).filter fun w => decide (w ∈ ws)).map wd) g1.fh (sqL_of hp) (by decide) rfl (fun j F' acc e => ?_) (fun j F1 F2 acc _ e => e) (fun j v F5 H5 acc hj hv g5 hacc Done Kept hd hkp => ?_) fun F5 H5 D acc g5 hD5 h5 hacc => ?_
    · rw [e, List.length_map]
      refine Nat.le_trans (List.length_filter_le _ _) ?_
      rw [List.length_take]
      omega
    · rw [List.getElem?_map] at hv
      cases hc : LICS[j]? with
      | none => rw [hc] at hv; cases hv
      | some s1 =>
        rw [hc] at hv
        obtain rfl : V.str (tx s1) = v := Option.some.inj hv
        lcg_off
        refine ⟨rfl, ?_⟩
        lcg_off
        refine rd_inWL ((fh.trans (g1.same.trans g5.same)).seq hl) ?_
        lcg_off
        refine ifB (fun c => ?_) (fun c => ?_)
        · lcg_off
          refine hkp F5 H5 _ (Grow.refl g5.fh) ?_
          rw [filter_take_succ _ hc, c, hacc]
          simp [wd]
        · refine hd F5 H5 (Grow.refl g5.fh) ?_
          rw [filter_take_succ _ hc, c, hacc]
          simp
    · rw [List.length_map, List.take_length] at hacc
      subst hacc
      exact k _ H5 D ((g1.trans g5).frz h5.h h5.f (g1.free hD5)) upd_same
/-- the first that is no licence -/
def FirstBad (xs : List V) (ds : List PyData) (d : PyData) (x : V) : Prop := ∃ (i : Nat), xs[i]? = some x ∧ ds[i]? = some d ∧ isLic d = false ∧ (∀ (j : Nat) e, j < i → ds[j]? = some e → isLic e = true)
theorem make_bad {E : XK} {F H : Hp} {Q : Addr → VK} {q : Addr} {xs : List V} {ds : List PyData} {d : PyData} {v : V} (fh : Same F H) (hq : SqL K H q xs ∨ SqT K H q xs) (hD : DpAll K F xs ds) (hS : ∀ d ∈ ds, SeqAt.shaped d = true) (hb : FirstBad xs ds d v) (h : Err a.C_BadFamily "word" v H E) :
    ∀ x dx, H x = none → H dx = none → dx ≠ x → sp_Family_init a K [.ref x, .ref q] (upd (upd H dx (.own x)) x (.ins a.C_Family dx [])) (Q x) E := by
  intro x dx nx ndx ne
  obtain ⟨i, h1, h2, h3, h4⟩ := hb
  have hx1 : (upd H dx (.own x)) x = none := upd_oldN ne.symm nx
  have g1 := (Grow.refl (S := []) fh).new (o := .own x) ndx
  have g2 := g1.newO (o := .ins a.C_Family dx []) hx1
  have fx : upd F dx (.own x) x = none := upd_oldN ne.symm (fh.free nx)
  exact ⟨_, x, dx, q, xs, ds, rfl, g2.fh, ⟨fx, upd_same⟩, seqX hq g2.same, hD.mono g2.ff, hS, .inr ⟨i, v, d, h1, h2, h3, h4, h.of g2.same⟩⟩
def sp_law_refused (a : Ad) (K : PySem.W.Frag) : Sp := fun vs H Q _ => ∃ (F : Hp) (q : Addr) (xs : List V) (ds : List PyData) (d : PyData) (x : V), vs = [.ref q] ∧ Same F H ∧ (SqL K H q xs ∨ SqT K H q xs) ∧ DpAll K F xs ds ∧ (∀ d ∈ ds, SeqAt.shaped d = true) ∧ FirstBad xs ds d x ∧
  ∀ F' H' v, Grow [] F H F' H' → Dp K F' v (.list [d, .bool true, .bool true]) → Q v H'
theorem ok_law_refused (T : Txt K mg a) : FnOk P w K mg base CX0 5 a.f_law_refused a.fd_law_refused ["_law_words"]  (sp_law_refused a K) := by
  refine T.F_law_refused.ok sc_law_refused (fun vs H Q E h => ?_) (fun cdv A outer s H vs Q E hr h => ?_)
  · obtain ⟨_, _, _, _, _, _, rfl, _⟩ := h
    rfl
  · obtain ⟨F, q, xs, ds, d, x, rfl, fh, hq, hD, hS, ⟨i, hx, hd, hb, hpre⟩, k⟩ := h
    have hdx : Dp K F x d := by
      obtain ⟨d', h1, h2⟩ := hD.get hx
      rw [hd] at h1
      cases h1
      exact h2
    refine ⟨_, ((pss_cons (ps_try_as (i := 1) rfl rfl sc_law_refused.nd rfl rfl ⟨rfl, by decide, .inl T.g_BadFamily⟩ takes0 (fun W pn xe tk _ => (pss_one (ps_expr (pe_makeS T.mk_Family (ok_Family_init T) hr rfl T.g_Family T.b_Family_init (fun σ => passAt tk σ) (pa_cons (pv 0) pa_nil)))))
 (fun a oe cls d pn hz hf => (pss_one (ps_ret (pe_lst (pa_cons (pe_xf T.xf_BadFamily T.no_BadFamily_word hz hf (pv 1)) (pa_cons (pe_callB (call_isX T.xc_BadFamily hz hf) (by rfl) T.n_isinstance (by decide +kernel) (pa_cons (pv 1) (pa_cons (pe_glob (v := .ref _) rfl T.g_HeirsbackError rfl) pa_nil))) (pa_cons (pe_callB (call_isX T.xc_BadFamily hz hf) (by rfl) T.n_isinstance (by decide +kernel) (pa_cons (pv 1) (pa_cons (pe_bltn (v := .ty "ValueError") (by rfl) T.n_ValueError (by decide +kernel) rfl) pa_nil))) pa_nil))))))))
 (pss_one (ps_ret (pe_lst pa_nil))))), ?_⟩
    try simp only [cxK]
    lcg_off
    refine rd_makeS ?_
    lcg_off
    refine make_bad fh hq hD hS ⟨i, hx, hd, hb, hpre⟩ ?_
    intro dd H' s' n' e'
    refine rd_wAs T.ex_bf ?_
    intro ax hax
    lcg_off
    refine rd_xf ?_
    lcg_off
    refine ⟨rfl, dd, _, x, rfl, e', by simp [List.lookup], ?_⟩
    lcg_off
    refine rd_isX e' (.own _) T.ki_hb ?_
    lcg_off
    refine rd_isX e' (.ty _) T.ki_ve ?_
    lcg_off
    have g1 := Grow.ofSame fh s'
    refine newLD (K := K) (ds := [d, .bool true, .bool true]) g1.fh (.cons hdx (.cons (.bl true) (.one (.bl true)))) fun F2 H2 l g2 nl hl => ?_
    exact k F2 H2 _ (g1.trans g2) hl
def sp_law_one_refused (a : Ad) (K : PySem.W.Frag) : Sp := fun vs H Q _ => ∃ (F : Hp) (x1 x2 : V) (ds : List PyData) (d : PyData) (x : V), vs = [x1, x2] ∧ Same F H ∧ DpAll K F [x1, x2] ds ∧ (∀ d ∈ ds, SeqAt.shaped d = true) ∧ FirstBad [x1, x2] ds d x ∧
  ∀ F' H' v, Grow [] F H F' H' → Dp K F' v (.list [d]) → Q v H'
theorem ok_law_one_refused (T : Txt K mg a) : FnOk P w K mg base CX0 6 a.f_law_one_refused a.fd_law_one_refused ["_law_one", "_law_other"]  (sp_law_one_refused a K) := by
  refine T.F_law_one_refused.ok sc_law_one_refused (fun vs H Q E h => ?_) (fun cdv A outer s H vs Q E hr h => ?_)
  · obtain ⟨_, _, _, _, _, _, rfl, _⟩ := h
    rfl
  · obtain ⟨F, x1, x2, ds, d, x, rfl, fh, hD, hS, ⟨i, hx, hd, hb, hpre⟩, k⟩ := h
    have hdx : Dp K F x d := by
      obtain ⟨d', h1, h2⟩ := hD.get hx
      rw [hd] at h1
      cases h1
      exact h2
    refine ⟨_, ((pss_cons (ps_try_as (i := 2) rfl rfl sc_law_one_refused.nd rfl rfl ⟨rfl, by decide, .inl T.g_BadFamily⟩ takes0 (fun W pn xe tk _ => (pss_one (ps_expr (pe_cmethS (pe_glob (v := .ref _) rfl T.g_Family rfl) T.cr_Family T.cm_Family_of (okR_Family_of T) hr (fun σ => passAt tk σ) (pa_cons (pv 0) (pa_cons (pv 1) pa_nil))))))
 (fun a oe cls d pn hz hf => (pss_one (ps_ret (pe_lst (pa_cons (pe_xf T.xf_BadFamily T.no_BadFamily_word hz hf (pv 2)) pa_nil))))))
 (pss_one (ps_ret (pe_lst pa_nil))))), ?_⟩
    try simp only [cxK]
    lcg_off
    refine rd_cmethS ?_
    lcg_off
    refine of_fam fh (by simp) hD hS (.inr ⟨i, x, d, hx, hd, hb, hpre, ?_⟩)
    intro dd H' s' n' e'
    refine rd_wAs T.ex_bf ?_
    intro ax hax
    lcg_off
    refine rd_xf ?_
    lcg_off
    refine ⟨rfl, dd, _, x, rfl, e', by simp [List.lookup], ?_⟩
    lcg_off
    have g1 := Grow.ofSame fh s'
    refine newLD (K := K) (ds := [d]) g1.fh (.one hdx) fun F2 H2 l g2 nl hl => ?_
    exact k F2 H2 _ (g1.trans g2) hl
end
end Ex

namespace Ex
open PySem L2 Hk
local macro_rules | `(tactic| array_mem_dec) => `(tactic| with_reducible first
  | assumption | exact upd_same
  | (apply upd_new; assumption; array_mem_dec)
  | (apply upd_old; tlg_ne; array_mem_dec)
  | (apply same_at; assumption; array_mem_dec))
local macro_rules | `(tactic| tlg_ne) => `(tactic| with_reducible first
  | assumption | (apply Ne.symm; assumption)
  | (apply ne_new; assumption; array_mem_dec) | (apply ne_new'; assumption; array_mem_dec)
  | (apply ne_of; assumption; assumption; (with_unfolding_all (intro z; cases z; done))))
local macro_rules | `(tactic| decreasing_trivial_pre_omega) => `(tactic| with_reducible first
  | assumption | (apply sqL_of; array_mem_dec) | (apply sqT_of; array_mem_dec)
  | (apply Same.seq; assumption; decreasing_trivial_pre_omega) | (apply sqT_same; assumption; decreasing_trivial_pre_omega)
  | (apply sqL_new; assumption; decreasing_trivial_pre_omega) | (apply sqL_upd; tlg_ne; decreasing_trivial_pre_omega))
local macro_rules | `(tactic| kpt_turns) => `(tactic| with_reducible first
  | assumption | exact Same.refl _ | (apply same_ext; kpt_turns; assumption) | (apply same_mut; kpt_turns; keq_hits) | (apply same_step; assumption; kpt_turns))
local macro_rules | `(tactic| keq_hits) => `(tactic| with_reducible first | assumption | (apply same_none; assumption; keq_hits))
local macro_rules | `(tactic| sizeOf_list_dec) => `(tactic| first | (with_reducible assumption) | (with_reducible_and_instances omega) | (with_unfolding_all decide))
local macro_rules | `(tactic| array_get_dec) => `(tactic| first | (with_reducible assumption) | (apply sz_of; (with_unfolding_all simp); done) | (apply sz_of; omega) | (apply sz_lt; (with_unfolding_all simp); done) | (apply sz_lt; omega))
local macro_rules | `(tactic| keq_rows) => `(tactic| with_reducible first
  | apply rd_asgN | apply rd_seq | apply rd_parA | apply rd_par3A | apply rd_par2 | apply rd_par3 | apply rd_m1 | apply rd_isStr | apply rd_cval | apply rd_asg | apply rd_gname | apply rd_op | (show tVar _ _ _ _; refine rd_var (by with_unfolding_all rfl) ?_) | apply rd_c | apply rd_I0
  | apply rd_cons | apply rd_nil | apply rd_cb | apply rd_test | apply rd_bl | apply rd_fld | apply rd_drop | apply rd_ret | apply rd_retN | apply rd_next
  | apply rd_ifS | apply rd_un | apply rd_B | apply rd_and | apply rd_or | apply rd_not | apply rd_andV | apply rd_orV | apply rd_notV | apply rd_if
  | apply rd_int | apply rd_abs | apply rd_max | apply rd_min | apply rd_strS | apply rd_U
  | apply rd_eqTx | apply rd_neTx | apply rd_inTx | apply rd_notInTx | apply rd_fmt | (show FmtK (.str (tx _)) _ _; refine rd_fmtT (by omega) ?_) | apply rd_jsC | apply rd_jsN | (show JsK _ (tx _) _ (.str (tx _)) _ _; refine rd_JsK (by first | omega | (simp; done) | (simp; omega)) ?_) | (show rAddStr (.str (tx _)) (.str (tx _)) _ _; refine rd_addT (by first | omega | (simp; done) | (simp; omega)) ?_) | (show rLenStr [.str (tx _)] _ _; refine rd_lenTx (by omega) ?_)
  | (show rEq _ _ _ _; refine rd_eq (by with_unfolding_all rfl) ?_) | (show rNe _ _ _ _; refine rd_ne (by with_unfolding_all rfl) ?_) | apply rd_isNone | apply rd_notNone
  | (show rIxL _ _ _ _ _; refine rd_ixL (by decreasing_trivial_pre_omega) (by with_unfolding_all rfl) ?_) | (show rIxT _ _ _ _ _; refine rd_ixT (by decreasing_trivial_pre_omega) (by with_unfolding_all rfl) ?_)
  | (show rLenSeq _ _ _ _; refine rd_lenL (by decreasing_trivial_pre_omega) ?_) | (show rLenSeq _ _ _ _; refine rd_lenT (by decreasing_trivial_pre_omega) ?_)
  | (show rI _ _ _ _ _ _; refine rd_mod (by sizeOf_list_dec) ?_) | (show rI _ _ _ _ _ _; refine rd_div (by sizeOf_list_dec) (by sizeOf_list_dec) ?_) | (show rI _ _ _ _ _ _; refine rd_mulR (by sizeOf_list_dec) (by sizeOf_list_dec) ?_) | (show rI _ _ _ _ _ _; refine rd_mulL (by sizeOf_list_dec) (by sizeOf_list_dec) ?_) | (show rI _ _ _ _ _ _; refine rd_pow (by sizeOf_list_dec) ?_)
  | (show rSetL _ _ _ _ _; refine rd_setL (by array_mem_dec) (by with_unfolding_all rfl) ?_)
  | apply rd_inSign | apply rd_notInSign | apply rd_tupK | apply rd_lstK | apply rd_sl | apply rd_noPart | apply rd_part | apply rd_isInt
  | apply rd_gsub | apply rd_gcons | apply rd_gnil | apply rd_call | apply rd_meth | apply rd_make | apply rd_smeth | apply rd_isC | apply rd_smethK | apply rd_cmeth | apply rd_cmethK
  | apply rd_bm | apply rd_bm0 | (show BmK _ _ _ _ _ _ _ _; refine rd_bmL (by array_mem_dec) ?_) | (show Bm0K _ _ _ _ _ _; refine rd_bm0L (by array_mem_dec) ?_) | apply rd_sfld | apply rd_aug | apply rd_rAdd | apply rd_brk | apply rd_cont
  | apply rd_for | apply rd_iList | (show IList _ _ _ _; refine rd_IList (by decreasing_trivial_pre_omega) ?_) | apply rd_iTup | (show ITup _ _ _ _; refine rd_ITup (by decreasing_trivial_pre_omega) ?_) | apply rd_iEnum | (show IEnum _ _ _ _; refine rd_IEnum (by decreasing_trivial_pre_omega) ?_) | apply rd_iRng1 | (show IRng1 _ _ _; refine rd_IRng1 (by sizeOf_list_dec) (by sizeOf_list_dec) ?_)
  | (show rLenStr _ _ _; refine rd_lenS (by array_get_dec) ?_) | (show rAddStr _ _ _ _; refine rd_addS (by array_get_dec) ?_) | (show rSlS _ _ _ _ _; refine rd_slS (by array_get_dec) ?_) | apply rd_lc | apply rd_yes | (show gTup _ _ _ _ _ _ _; refine rd_gtup (by decreasing_trivial_pre_omega) (by with_unfolding_all rfl) ?_) | (show tMakeL _ _ _ _ _ _ _ _; refine rd_makeL (by with_unfolding_all rfl) ?_))
local macro_rules | `(tactic| kas_types) => `(tactic| with_reducible first | apply rd_isi_int_int | apply rd_isi_int_bool | apply rd_isi_int_str | apply rd_isi_int_list | apply rd_isi_int_tuple | apply rd_isi_bool_int | apply rd_isi_bool_bool | apply rd_isi_bool_str | apply rd_isi_bool_list | apply rd_isi_bool_tuple | apply rd_isi_str_int | apply rd_isi_str_bool | apply rd_isi_str_str | apply rd_isi_str_list | apply rd_isi_str_tuple | (show rIsi _ _ _ _; refine rd_isi_list_int (by array_mem_dec) ?_) | (show rIsi _ _ _ _; refine rd_isi_list_bool (by array_mem_dec) ?_) | (show rIsi _ _ _ _; refine rd_isi_list_str (by array_mem_dec) ?_) | (show rIsi _ _ _ _; refine rd_isi_list_list (by array_mem_dec) ?_) | (show rIsi _ _ _ _; refine rd_isi_list_tuple (by array_mem_dec) ?_) | (show rIsi _ _ _ _; refine rd_isi_tuple_int (by array_mem_dec) ?_) | (show rIsi _ _ _ _; refine rd_isi_tuple_bool (by array_mem_dec) ?_) | (show rIsi _ _ _ _; refine rd_isi_tuple_str (by array_mem_dec) ?_) | (show rIsi _ _ _ _; refine rd_isi_tuple_list (by array_mem_dec) ?_) | (show rIsi _ _ _ _; refine rd_isi_tuple_tuple (by array_mem_dec) ?_) | apply rd_isi_NoneType_int | apply rd_isi_NoneType_bool | apply rd_isi_NoneType_str | apply rd_isi_NoneType_list | apply rd_isi_NoneType_tuple)
local macro_rules | `(tactic| lcg_src) => `(tactic| repeat keq_rows)

local macro_rules | `(tactic| lcg_sub) => `(tactic| with_reducible refine fldF_words (by assumption) (by array_mem_dec) ?_)
local macro_rules | `(tactic| lcg_off) => `(tactic| repeat (first | keq_rows | lcg_sub))
theorem any_sD (ws : List (List Nat)) (w : List Nat) : ((ws.map sD).any fun z => PyData.eqv z (sD w)) = decide (w ∈ ws) := by
  induction ws with
  | nil => rfl
  | cons x ws ih =>
    rw [List.map_cons, List.any_cons, ih]
    have e : PyData.eqv (sD x) (sD w) = decide (x = w) := by
      by_cases h : x = w
      · subst h; simp [sD, PyData.eqv]
      · have h1 : ¬ tx x = tx w := fun z => h (tx_inj.mp z)
        simp [sD, PyData.eqv, h, h1]
    rw [e]
    by_cases h : x = w
    · subst h; simp
    · have h2 : ¬ w = x := fun z => h z.symm
      simp [h, h2]
theorem any_no {ws : List (List Nat)} {d : PyData} (h : isLic d = false) : (((fam ws).map sD).any fun z => PyData.eqv z d) = false := by
  apply Bool.eq_false_iff.mpr
  intro z
  obtain ⟨x, hx, e⟩ := List.any_eq_true.mp z
  obtain ⟨w, hw, rfl⟩ := List.mem_map.mp hx
  have : isLic d = true := List.any_eq_true.mpr ⟨sD w, List.mem_map.mpr ⟨w, fam_sub hw, rfl⟩, e⟩
  rw [h] at this
  cases this
theorem famT_shaped {ws : List (List Nat)} : SeqAt.shaped (.tuple ((fam ws).map sD)) = true := wdT_shaped fam_okT
theorem famL_shaped {ws : List (List Nat)} : SeqAt.shaped (.list ((fam ws).map sD)) = true := wdL_shaped fam_okT
theorem bl_ne {b c : Bool} (h : b = c) : (!decide (V.bl b = V.bl c)) = false := by subst h; simp
theorem dec_pos {l : List (List Nat)} : decide (0 < l.length) = !decide (l = []) := by cases l <;> simp
section
variable {P : Program} {w : World} {K : PySem.W.Frag} {mg : Str → Option Value} {base : Heap} {a : Ad}
def sp_law_family_right (a : Ad) (K : PySem.W.Frag) : Sp := fun vs H Q _ => ∃ (F : Hp) (p l : Addr) (ws : List (List Nat)), vs = [.ref p, .ref l] ∧ Same F H ∧ FamAt a F p (fam ws) ∧ SqL K F l (ws.map wd) ∧ ∀ F' H', Grow [] F H F' H' → Q (.bl true) H'
theorem ok_law_family_right (T : Txt K mg a) : FnOk P w K mg base CX0 4 a.f_law_family_right a.fd_law_family_right ["_law_family", "_law_words"]  (sp_law_family_right a K) := by
  refine T.F_law_family_right.ok sc_law_family_right (fun vs H Q E h => ?_) (fun cdv A outer s H vs Q E hr h => ?_)
  · obtain ⟨_, _, _, _, rfl, _⟩ := h
    rfl
  · obtain ⟨F, p, l, ws, rfl, fh, h1, hl, k⟩ := h
    refine ⟨_, ((pss_cons (ps_set (i := 2) sc_law_family_right.nd rfl (Or.inl rfl) (pe_call (ok_law_sorted T) (hr.mono (by decide)) rfl T.g_law_sorted T.F_law_sorted.kp T.b_law_sorted .nil pass0 (pa_cons (pv 1) pa_nil)))
 (pss_cons (ps_if (PW.pt (pw_or (pt_not (pt_val (pe_callB call_isi (by rfl) T.n_isinstance (by decide +kernel) (pa_cons (pe_fld (pv 0) rfl) (pa_cons (pe_bltn (v := .ty "tuple") (by rfl) T.n_tuple (by decide +kernel) rfl) pa_nil))))) (pw_or (pt_cmpR (op_neD hr.units) (pe_callTy call_listOf (by rfl) T.n_list (by decide +kernel) (pa_cons (pe_fld (pv 0) rfl) pa_nil)) (pv 2) (nomark _)) (pw_or1 (pt_cmpR op_ne (pe_callB (call_lenO (own_Family_len T) (hr.mono (by decide))) (by rfl) T.n_len (by decide +kernel) (pa_cons (pv 0) pa_nil)) (pe_callB call_lenSeq (by rfl) T.n_len (by decide +kernel) (pa_cons (pv 2) pa_nil)) (nomark _))))))
 (pss_one (ps_ret pe_bl))
 pss_nil)
 (pss_cons (ps_if (PW.pt (pw_or (pt_cmpR op_ne (pe_callTy (call_boolO (own_Family_bool T) hr) (by rfl) T.n_bool (by decide +kernel) (pa_cons (pv 0) pa_nil)) (pe_cmpR (op_neD hr.units) (pv 2) (pe_lst pa_nil) (nomark _)) (nomark _)) (pw_or1 (pt_cmpR op_ne (pe_callB (call_reprO (own_Family_repr T) (hr.mono (by decide))) (by rfl) T.n_repr (by decide +kernel) (pa_cons (pv 0) pa_nil)) (pe_op op_addStr (pe_op op_addStr pe_str (pe_joinR (K := K) pe_str (pv 2))) pe_str) (nomark _)))))
 (pss_one (ps_ret pe_bl))
 pss_nil)
 (pss_cons (ps_for PassesOwn.never rfl (pi_list (pe_call0 (ok_law_licences T) (hr.mono (by decide)) rfl T.g_law_licences T.F_law_licences.kp T.b_law_licences .nil pass0)) (pg_name (i := 3) sc_law_family_right.nd rfl (Or.inl rfl))
 (pss_one (ps_if (pt_cmpR op_ne (pe_cmpR (op_inO (own_Family_contains T) (hr.mono (by decide))) (pv 3) (pv 0) (by rfl)) (pe_cmpR op_in_seq (pv 3) (pv 2) (by rfl)) (nomark _))
 (pss_one (ps_ret pe_bl))
 pss_nil)))
 (pss_cons (ps_for PassesOwn.never rfl (pi_list (pe_lst (pa_cons pe_non (pa_cons pe_int (pa_cons pe_bl (pa_cons pe_str (pa_cons pe_str (pa_cons pe_str (pa_cons pe_str (pa_cons pe_str (pa_cons (pe_lst (pa_cons pe_str pa_nil)) (pa_cons (pe_tup (pa_cons pe_str pa_nil)) (pa_cons (pv 2) pa_nil))))))))))))) (pg_name (i := 4) sc_law_family_right.nd rfl (Or.inl rfl))
 (pss_one (ps_if (pt_cmpR (op_inO (own_Family_contains T) (hr.mono (by decide))) (pv 4) (pv 0) (by rfl))
 (pss_one (ps_ret pe_bl))
 pss_nil)))
 (pss_one (ps_ret pe_bl)))))))), ?_⟩
    try simp only [cxK, famO_tx, comma_tx, close_tx]
    lcg_off
    refine ⟨F, l, ws, rfl, fh, hl, fun F1 H1 D g1 hD => ?_⟩
    have h11 := h1.mono g1.ff
    obtain ⟨dx, q, hp, hq⟩ := h11.ex
    have hpH := g1.fh _ _ hp
    have hqH := g1.fh _ _ hq
    have hDH := g1.fh _ _ hD
    lcg_off
    kas_types
    lcg_off
    refine ifF rfl ?_
    lcg_off
    refine new_list g1.fh (.inr (sqT_of hq)) fun F2 H2 l2 g2 nl2 hl2 => ?_
    have g12 := g1.trans g2
    lcg_off
    refine rd_neWL (sqL_of (g2.fh _ _ hl2)) (sqL_of (g2.fh _ _ (g2.ff _ _ hD))) fam_okT fam_okT ?_
    lcg_off
    refine ifF (by simp) ?_
    lcg_off
    refine ask_len g2.fh (h11.mono g2.ff) (fam_len ws) ?_
    have hDH2 := g2.same _ _ hDH
    lcg_off
    rw [List.length_map]
    refine ifF (by simp) ?_
    lcg_off
    refine ask_bool g2.fh (h11.mono g2.ff) ?_
    lcg_off
    refine newL g2.fh fun F3 H3 l3 g3 nl3 hl3 => ?_
    have g13 := g12.trans g3
    lcg_off
    refine rd_neWL (ws := fam ws) (vs := []) (sqL_of (g3.same _ _ hDH2)) (sqL_of (g3.fh _ _ hl3)) fam_okT (by simp) ?_
    lcg_off
    refine ifF (bl_ne dec_pos) ?_
    lcg_off
    have h13 := h11.mono (g2.ff.trans g3.ff)
    refine ask_repr g3.fh h13 (fun w h => fam_sub h) (fam_len ws) ?_
    have hDH3 := g3.same _ _ hDH2
    have hs := sum_short (fam ws) (fun w h => fam_sub h)
    have hfl := fam_len ws
    have hj := joinL_len [44, 32] (fam ws)
    have e2 : ([44, 32] : List Nat).length = 2 := rfl
    rw [e2] at hj
    lcg_off
    refine rd_joinW (.inl (sqL_of hDH3)) (by rw [e2]; omega) ?_
    lcg_off
    refine ifF (by simp) ?_
    lcg_off
    refine lics_frz g3.fh fun F4 H4 l4 g4 nl4 hl4 => ?_
    have g14 := g13.trans g4
    have hl4H := g4.fh _ _ hl4
    lcg_off
    refine fk_list (xs := LICS.map wd) (fun i σ H' => ∃ u, σ = [some (.ref p), some (.ref l), some (.ref D), u, none] ∧ H' = H4) ⟨_, rfl, rfl⟩ (fun i σ H' _ ⟨_, _, e⟩ => e ▸ sqL_of hl4H) ?_ ?_
    · rintro i x σ H' hx ⟨u, rfl, rfl⟩
      obtain ⟨y, hy, rfl⟩ := List.mem_map.mp (List.mem_of_getElem? hx)
      unfold wd
      lcg_off
      refine ask_in (d := sD y) g4.fh (h13.mono g4.ff) (.str _) (by
        have := lics_okT y hy
        show SeqAt.shaped (wdD y) = true
        show (PyData.canLay0 (wdD y) && decide (PyData.depth (wdD y) ≤ 64)) = true
        simp [wdD, PyData.canLay0, PyData.depth, okT_str this]) famT_shaped ?_
      rw [any_sD]
      lcg_off
      refine rd_inWL (sqL_of (g4.same _ _ hDH3)) ?_
      lcg_off
      refine ifF (bl_ne rfl) ?_
      lcg_off
      exact ⟨_, rfl, rfl⟩
    · rintro σ H' ⟨u, rfl, rfl⟩
      lcg_off
      refine newLD (K := K) (ds := [.str "needs"]) g4.fh (.one (.str _)) fun F5 H5 l5 g5 nl5 hl5 => ?_
      lcg_off
      refine newTD (K := K) (ds := [.str "needs"]) g5.fh (.one (.str _)) fun F6 H6 l6 g6 nl6 hl6 => ?_
      have g46 := g4.trans (g5.trans g6)
      lcg_off
      have hDd : Dp K F6 (.ref D) (.list ((fam ws).map sD)) := .lst (sqL_of (g46.ff _ _ (g3.ff _ _ (g2.ff _ _ hD)))) (sD_all _)
      refine newL g6.fh fun F7 H7 l7 g7 nl7 hl7 => ?_
      have hall : DpAll K F6 [.non, .int 0, .bl true, .str "", .str "need", .str "bare", .str "hook", .str "Needs", .ref l5, .ref l6, .ref D] [.none, .int 0, .bool true, .str "", .str "need", .str "bare", .str "hook", .str "Needs", .list [.str "needs"], .tuple [.str "needs"], .list ((fam ws).map sD)] :=
        .cons .non (.cons (.int _) (.cons (.bl _) (.cons (.str _) (.cons (.str _) (.cons (.str _) (.cons (.str _) (.cons (.str _) (.cons (hl5.mono g6.ff) (.cons hl6 (.one hDd))))))))))
      have hok : ∀ d ∈ ([.none, .int 0, .bool true, .str "", .str "need", .str "bare", .str "hook", .str "Needs", .list [.str "needs"], .tuple [.str "needs"], .list ((fam ws).map sD)] : List PyData), SeqAt.shaped d = true ∧ isLic d = false := by
        intro d hd
        simp only [List.mem_cons, List.not_mem_nil, or_false] at hd
        rcases hd with rfl | rfl | rfl | rfl | rfl | rfl | rfl | rfl | rfl | rfl | rfl
        · decide +kernel
        · decide +kernel
        · decide +kernel
        · decide +kernel
        · decide +kernel
        · decide +kernel
        · decide +kernel
        · decide +kernel
        · decide +kernel
        · decide +kernel
        · refine ⟨famL_shaped, ?_⟩
          show (licD.any fun z => PyData.eqv z (.list _)) = false
          rfl
      have g17 := g14.trans ((g5.trans g6).trans g7)
      lcg_off
      refine rd_IList (sqL_of (g7.fh _ _ hl7)) ?_
      refine fk_list (fun i σ H' => ∃ u u2, σ = [some (.ref p), some (.ref l), some (.ref D), u, u2] ∧ H' = H7) ⟨_, _, rfl, rfl⟩ (fun i σ H' _ ⟨_, _, _, e⟩ => e ▸ sqL_of (g7.fh _ _ hl7)) ?_ ?_
      · rintro i x σ H' hx ⟨u, u2, rfl, rfl⟩
        obtain ⟨d, hd, hdx⟩ := hall.get hx
        obtain ⟨ho1, ho2⟩ := hok d (List.mem_of_getElem? hd)
        lcg_off
        refine ask_in (d := d) g7.fh (h13.mono (g46.ff.trans g7.ff)) (hdx.mono g7.ff) ho1 famT_shaped ?_
        rw [any_no ho2]
        lcg_off
        refine ifF rfl ?_
        lcg_off
        exact ⟨_, _, rfl, rfl⟩
      · rintro σ H' ⟨u, u2, rfl, rfl⟩
        lcg_off
        exact k F7 H' g17
end
end Ex

namespace Ex
open PySem L2 Hk
local macro_rules | `(tactic| array_mem_dec) => `(tactic| with_reducible first
  | assumption | exact upd_same
  | (apply upd_new; assumption; array_mem_dec)
  | (apply upd_old; tlg_ne; array_mem_dec)
  | (apply same_at; assumption; array_mem_dec))
local macro_rules | `(tactic| tlg_ne) => `(tactic| with_reducible first
  | assumption | (apply Ne.symm; assumption)
  | (apply ne_new; assumption; array_mem_dec) | (apply ne_new'; assumption; array_mem_dec)
  | (apply ne_of; assumption; assumption; (with_unfolding_all (intro z; cases z; done))))
local macro_rules | `(tactic| decreasing_trivial_pre_omega) => `(tactic| with_reducible first
  | assumption | (apply sqL_of; array_mem_dec) | (apply sqT_of; array_mem_dec)
  | (apply Same.seq; assumption; decreasing_trivial_pre_omega) | (apply sqT_same; assumption; decreasing_trivial_pre_omega)
  | (apply sqL_new; assumption; decreasing_trivial_pre_omega) | (apply sqL_upd; tlg_ne; decreasing_trivial_pre_omega))
local macro_rules | `(tactic| kpt_turns) => `(tactic| with_reducible first
  | assumption | exact Same.refl _ | (apply same_ext; kpt_turns; assumption) | (apply same_mut; kpt_turns; keq_hits) | (apply same_step; assumption; kpt_turns))
local macro_rules | `(tactic| keq_hits) => `(tactic| with_reducible first | assumption | (apply same_none; assumption; keq_hits))
local macro_rules | `(tactic| sizeOf_list_dec) => `(tactic| first | (with_reducible assumption) | (with_reducible_and_instances omega) | (with_unfolding_all decide))
local macro_rules | `(tactic| array_get_dec) => `(tactic| first | (with_reducible assumption) | (apply sz_of; (with_unfolding_all simp); done) | (apply sz_of; omega) | (apply sz_lt; (with_unfolding_all simp); done) | (apply sz_lt; omega))
local macro_rules | `(tactic| keq_rows) => `(tactic| with_reducible first
  | apply rd_asgN | apply rd_seq | apply rd_parA | apply rd_par3A | apply rd_par2 | apply rd_par3 | apply rd_m1 | apply rd_isStr | apply rd_cval | apply rd_asg | apply rd_gname | apply rd_op | (show tVar _ _ _ _; refine rd_var (by with_unfolding_all rfl) ?_) | apply rd_c | apply rd_I0
  | apply rd_cons | apply rd_nil | apply rd_cb | apply rd_test | apply rd_bl | apply rd_fld | apply rd_drop | apply rd_ret | apply rd_retN | apply rd_next
  | apply rd_ifS | apply rd_un | apply rd_B | apply rd_and | apply rd_or | apply rd_not | apply rd_andV | apply rd_orV | apply rd_notV | apply rd_if
  | apply rd_int | apply rd_abs | apply rd_max | apply rd_min | apply rd_strS | apply rd_U
  | apply rd_eqTx | apply rd_neTx | apply rd_inTx | apply rd_notInTx | apply rd_fmt | (show FmtK (.str (tx _)) _ _; refine rd_fmtT (by omega) ?_) | apply rd_jsC | apply rd_jsN | (show JsK _ (tx _) _ (.str (tx _)) _ _; refine rd_JsK (by first | omega | (simp; done) | (simp; omega)) ?_) | (show rAddStr (.str (tx _)) (.str (tx _)) _ _; refine rd_addT (by first | omega | (simp; done) | (simp; omega)) ?_) | (show rLenStr [.str (tx _)] _ _; refine rd_lenTx (by omega) ?_)
  | (show rEq _ _ _ _; refine rd_eq (by with_unfolding_all rfl) ?_) | (show rNe _ _ _ _; refine rd_ne (by with_unfolding_all rfl) ?_) | apply rd_isNone | apply rd_notNone
  | (show rIxL _ _ _ _ _; refine rd_ixL (by decreasing_trivial_pre_omega) (by with_unfolding_all rfl) ?_) | (show rIxT _ _ _ _ _; refine rd_ixT (by decreasing_trivial_pre_omega) (by with_unfolding_all rfl) ?_)
  | (show rLenSeq _ _ _ _; refine rd_lenL (by decreasing_trivial_pre_omega) ?_) | (show rLenSeq _ _ _ _; refine rd_lenT (by decreasing_trivial_pre_omega) ?_)
  | (show rI _ _ _ _ _ _; refine rd_mod (by sizeOf_list_dec) ?_) | (show rI _ _ _ _ _ _; refine rd_div (by sizeOf_list_dec) (by sizeOf_list_dec) ?_) | (show rI _ _ _ _ _ _; refine rd_mulR (by sizeOf_list_dec) (by sizeOf_list_dec) ?_) | (show rI _ _ _ _ _ _; refine rd_mulL (by sizeOf_list_dec) (by sizeOf_list_dec) ?_) | (show rI _ _ _ _ _ _; refine rd_pow (by sizeOf_list_dec) ?_)
  | (show rSetL _ _ _ _ _; refine rd_setL (by array_mem_dec) (by with_unfolding_all rfl) ?_)
  | apply rd_inSign | apply rd_notInSign | apply rd_tupK | apply rd_lstK | apply rd_sl | apply rd_noPart | apply rd_part | apply rd_isInt
  | apply rd_gsub | apply rd_gcons | apply rd_gnil | apply rd_call | apply rd_meth | apply rd_make | apply rd_smeth | apply rd_isC | apply rd_smethK | apply rd_cmeth | apply rd_cmethK
  | apply rd_bm | apply rd_bm0 | (show BmK _ _ _ _ _ _ _ _; refine rd_bmL (by array_mem_dec) ?_) | (show Bm0K _ _ _ _ _ _; refine rd_bm0L (by array_mem_dec) ?_) | apply rd_sfld | apply rd_aug | apply rd_rAdd | apply rd_brk | apply rd_cont
  | apply rd_for | apply rd_iList | (show IList _ _ _ _; refine rd_IList (by decreasing_trivial_pre_omega) ?_) | apply rd_iTup | (show ITup _ _ _ _; refine rd_ITup (by decreasing_trivial_pre_omega) ?_) | apply rd_iEnum | (show IEnum _ _ _ _; refine rd_IEnum (by decreasing_trivial_pre_omega) ?_) | apply rd_iRng1 | (show IRng1 _ _ _; refine rd_IRng1 (by sizeOf_list_dec) (by sizeOf_list_dec) ?_)
  | (show rLenStr _ _ _; refine rd_lenS (by array_get_dec) ?_) | (show rAddStr _ _ _ _; refine rd_addS (by array_get_dec) ?_) | (show rSlS _ _ _ _ _; refine rd_slS (by array_get_dec) ?_) | apply rd_lc | apply rd_yes | (show gTup _ _ _ _ _ _ _; refine rd_gtup (by decreasing_trivial_pre_omega) (by with_unfolding_all rfl) ?_) | (show tMakeL _ _ _ _ _ _ _ _; refine rd_makeL (by with_unfolding_all rfl) ?_))
local macro_rules | `(tactic| kas_types) => `(tactic| with_reducible first | apply rd_isi_int_int | apply rd_isi_int_bool | apply rd_isi_int_str | apply rd_isi_int_list | apply rd_isi_int_tuple | apply rd_isi_bool_int | apply rd_isi_bool_bool | apply rd_isi_bool_str | apply rd_isi_bool_list | apply rd_isi_bool_tuple | apply rd_isi_str_int | apply rd_isi_str_bool | apply rd_isi_str_str | apply rd_isi_str_list | apply rd_isi_str_tuple | (show rIsi _ _ _ _; refine rd_isi_list_int (by array_mem_dec) ?_) | (show rIsi _ _ _ _; refine rd_isi_list_bool (by array_mem_dec) ?_) | (show rIsi _ _ _ _; refine rd_isi_list_str (by array_mem_dec) ?_) | (show rIsi _ _ _ _; refine rd_isi_list_list (by array_mem_dec) ?_) | (show rIsi _ _ _ _; refine rd_isi_list_tuple (by array_mem_dec) ?_) | (show rIsi _ _ _ _; refine rd_isi_tuple_int (by array_mem_dec) ?_) | (show rIsi _ _ _ _; refine rd_isi_tuple_bool (by array_mem_dec) ?_) | (show rIsi _ _ _ _; refine rd_isi_tuple_str (by array_mem_dec) ?_) | (show rIsi _ _ _ _; refine rd_isi_tuple_list (by array_mem_dec) ?_) | (show rIsi _ _ _ _; refine rd_isi_tuple_tuple (by array_mem_dec) ?_) | apply rd_isi_NoneType_int | apply rd_isi_NoneType_bool | apply rd_isi_NoneType_str | apply rd_isi_NoneType_list | apply rd_isi_NoneType_tuple)
local macro_rules | `(tactic| lcg_src) => `(tactic| repeat keq_rows)

local macro_rules | `(tactic| lcg_off) => `(tactic| repeat (first | keq_rows))
section
variable {K : PySem.W.Frag} {F H : Hp}
theorem new_sl {Q : VK} {r : Addr} {xs : List V} {lo hi : Option Int} (fh : Same F H) (h : SqL K F r xs) (k : ∀ F' H' p, Grow [] F H F' H' → H p = none → F' p = some (.lst (cutV xs lo hi)) → Q (.ref p) H') : rSlL K (.ref r) lo hi H Q :=
  ⟨r, xs, rfl, fh.seq h, fun l hl => k (upd F l (.lst (cutV xs lo hi))) _ l ((Grow.refl fh).new hl) hl upd_same⟩
theorem cut_take {xs : List V} {k : Nat} (h : k ≤ xs.length) : cutV xs none (some (k : Int)) = xs.take k := by
  unfold cutV
  rw [HT.sIx_none, HT.sIx_nat, Nat.min_eq_left h]
  simp
theorem cut_drop {xs : List V} {k : Nat} (h : k ≤ xs.length) : cutV xs (some (k : Int)) none = xs.drop k := by
  unfold cutV
  rw [HT.sIx_none, HT.sIx_nat, Nat.min_eq_left h]
  rw [List.take_of_length_le (by simp)]
theorem new_listH {Q : VK} {r : Addr} {xs : List V} (fh : Same F H) (h : SqL K H r xs) (k : ∀ F' H' p, Grow [] F H F' H' → H p = none → F' p = some (.lst xs) → Q (.ref p) H') : rListOf K [.ref r] H Q :=
  rd_listL h fun l hl => k _ _ l ((Grow.refl fh).new hl) hl upd_same
theorem new_tupH {Q : VK} {r : Addr} {xs : List V} (fh : Same F H) (h : SqL K H r xs) (k : ∀ F' H' p, Grow [] F H F' H' → H p = none → F' p = some (.tup xs) → Q (.ref p) H') : rTupOf K [.ref r] H Q :=
  rd_tupL h fun l hl => k _ _ l ((Grow.refl fh).new hl) hl upd_same
theorem tyX_tup {p : Addr} {xs : List V} (h : SqT K H p xs) : TyX K H (.ref p) (.type "tuple") := by
  rcases h with (h | ⟨o, h⟩) | ⟨o, its, n, h1, h2, _⟩
  · exact .base (.tup h)
  · exact .fTuple h
  · exact .kTuple h1 h2
end
theorem sD_ok {ws : List (List Nat)} (h : ∀ w ∈ ws, w ∈ LICS) : ∀ d ∈ ws.map sD, PyData.canLay0 d = true ∧ PyData.depth d ≤ 1 ∧ isLic d = true := by
  intro d hd
  obtain ⟨w, hw, rfl⟩ := List.mem_map.mp hd
  refine ⟨?_, ?_, isLic_of (h w hw)⟩
  · simp [sD, PyData.canLay0, okT_str (lics_okT w (h w hw))]
  · simp [sD, PyData.depth]
theorem sh_of {d : PyData} (h : PyData.canLay0 d = true ∧ PyData.depth d ≤ 1) : SeqAt.shaped d = true := by
  show (PyData.canLay0 d && decide (PyData.depth d ≤ 64)) = true
  rw [Bool.and_eq_true]
  exact ⟨h.1, decide_eq_true (by omega)⟩
def oddD : List PyData := [.none, .bool true, .int 0, .str "", .str "hook", .str "bare", .str "Call", .str "needs ", .str "own", .list [.str "call"], .tuple [.str "call", .str "names"], .list [], .int (10 ^ 20)]
theorem oddD_ok : ∀ d ∈ oddD, (PyData.canLay0 d = true ∧ PyData.depth d ≤ 1) ∧ isLic d = false := by decide +kernel
section
variable {P : Program} {w : World} {K : PySem.W.Frag} {mg : Str → Option Value} {base : Heap} {a : Ad}
/-- a family of licences -/
theorem fam_good {F H : Hp} {E : XK} {Q : Addr → Hp → Prop} {ws : List (List Nat)} (hw : ∀ w ∈ ws, w ∈ LICS) (k : ∀ F' H' p, Grow [] F H F' H' → FamAt a F' p (fam ws) → Q p H') :
    FamWords (ws.map wd) (ws.map sD) H E a.C_BadFamily fun ws => ∀ F' H' p, Grow [] F H F' H' → FamAt a F' p (fam ws) → Q p H' := .inl ⟨ws, rfl, hw, k⟩
def sp_law (K : PySem.W.Frag) : Sp := fun vs H Q _ => ∃ (sc : Addr) (ns : List Int), vs = [.ref sc] ∧ SqL K H sc (ns.map V.int) ∧ ns.length ≤ 63 ∧ ∀ H', Q (.bl true) H'
theorem ok_law (T : Txt K mg a) : FnOk P w K mg base CX0 7 a.f_law a.fd_law ["_law_script"]  (sp_law K) := by
  refine T.F_law.ok sc_law (fun vs H Q E h => ?_) (fun cdv A outer s H vs Q E hr h => ?_)
  · obtain ⟨_, _, rfl, _⟩ := h
    rfl
  · obtain ⟨sc, ns, rfl, hS, hl, k⟩ := h
    refine ⟨_, ((pss_cons (ps_if (PW.pt (pw_or (pt_cmpR (op_neD hr.units) (pe_callTy call_listOf (by rfl) T.n_list (by decide +kernel) (pa_cons (ClX.pe_cval (pe_glob (v := .ref _) rfl T.g_Family rfl)) pa_nil)) (pe_call0 (ok_law_licences T) (hr.mono (by decide)) rfl T.g_law_licences T.F_law_licences.kp T.b_law_licences .nil pass0) (nomark _)) (pw_or1 (pt_not (pt_val (pe_callB call_isi (by rfl) T.n_isinstance (by decide +kernel) (pa_cons (ClX.pe_cval (pe_glob (v := .ref _) rfl T.g_Family rfl)) (pa_cons (pe_bltn (v := .ty "tuple") (by rfl) T.n_tuple (by decide +kernel) rfl) pa_nil))))))))
 (pss_one (ps_ret pe_bl))
 pss_nil)
 (pss_cons (ps_set (i := 1) sc_law.nd rfl (Or.inl rfl) (pe_lst (pa_cons pe_non (pa_cons pe_bl (pa_cons pe_int (pa_cons pe_str (pa_cons pe_str (pa_cons pe_str (pa_cons pe_str (pa_cons pe_str (pa_cons pe_str (pa_cons (pe_lst (pa_cons pe_str pa_nil)) (pa_cons (pe_tup (pa_cons pe_str (pa_cons pe_str pa_nil))) (pa_cons (pe_lst pa_nil) (pa_cons (pe_op op_pow pe_int pe_int) pa_nil)))))))))))))))
 (pss_cons (ps_for PassesOwn.never rfl (pi_range1 rfl T.n_range (pa_cons (pe_callB (call_maxI rfl) (by rfl) T.n_max (by decide +kernel) (pa_cons pe_int (pa_cons (pe_callB (call_minI rfl) (by rfl) T.n_min (by decide +kernel) (pa_cons pe_int (pa_cons (pe_callB call_lenSeq (by rfl) T.n_len (by decide +kernel) (pa_cons (pv 0) pa_nil)) pa_nil))) pa_nil))) pa_nil)) (pg_name (i := 2) sc_law.nd rfl (Or.inl rfl))
 (pss_cons (ps_set (i := 3) sc_law.nd rfl (Or.inl rfl) (pe_call (ok_law_bag T) (hr.mono (by decide)) rfl T.g_law_bag T.F_law_bag.kp T.b_law_bag .nil pass0 (pa_cons (pv 0) (pa_cons (pv 2) pa_nil))))
 (pss_one (ps_for PassesOwn.never rfl (pi_range1 rfl T.n_range (pa_cons pe_int pa_nil)) (pg_name (i := 4) sc_law.nd rfl (Or.inl rfl))
 (pss_cons (ps_set (i := 5) sc_law.nd rfl (Or.inl rfl) (pe_call (ok_law_some T) (hr.mono (by decide)) rfl T.g_law_some T.F_law_some.kp T.b_law_some .nil pass0 (pa_cons (pv 3) pa_nil)))
 (pss_cons (ps_set (i := 6) sc_law.nd rfl (Or.inl rfl) (pe_callTy call_listOf (by rfl) T.n_list (by decide +kernel) (pa_cons (pv 5) pa_nil)))
 (pss_cons (ps_par (i := 7) (j := 8) (by rfl) sc_law.nd rfl rfl (by decide) rfl rfl (pa_cons (pe_make T.mk_Family (ok_Family_init T) (hr.mono (by decide)) rfl T.g_Family T.b_Family_init .nil passN (pa_cons (pv 5) pa_nil)) (pa_cons (pe_make T.mk_Family (ok_Family_init T) (hr.mono (by decide)) rfl T.g_Family T.b_Family_init .nil passN (pa_cons (pe_callTy call_tupOf (by rfl) T.n_tuple (by decide +kernel) (pa_cons (pv 5) pa_nil)) pa_nil)) pa_nil)) (by rfl))
 (pss_cons (ps_if (PW.pt (pw_or (pt_not (pt_val (pe_call (ok_law_family_right T) (hr.mono (by decide)) rfl T.g_law_family_right T.F_law_family_right.kp T.b_law_family_right .nil pass0 (pa_cons (pv 7) (pa_cons (pv 6) pa_nil))))) (pw_or (pt_not (pt_val (pe_call (ok_law_family_right T) (hr.mono (by decide)) rfl T.g_law_family_right T.F_law_family_right.kp T.b_law_family_right .nil pass0 (pa_cons (pv 8) (pa_cons (pv 6) pa_nil))))) (pw_or1 (pt_cmpR (op_neD hr.units) (pv 5) (pv 6) (nomark _))))))
 (pss_one (ps_ret pe_bl))
 pss_nil)
 (pss_cons (ps_expr (pe_bm PySem.F.plainAttrs_list PySem.F.slot_list_append PySem.F.type_list_append mt_append (pv 5) (pa_cons pe_str pa_nil)))
 (pss_cons (ps_expr (pe_bm PySem.F.plainAttrs_list PySem.F.slot_list_append PySem.F.type_list_append mt_append (pv 5) (pa_cons pe_str pa_nil)))
 (pss_cons (ps_if (PW.pt (pw_or (pt_not (pt_val (pe_call (ok_law_family_right T) (hr.mono (by decide)) rfl T.g_law_family_right T.F_law_family_right.kp T.b_law_family_right .nil pass0 (pa_cons (pv 7) (pa_cons (pv 6) pa_nil))))) (pw_or1 (pt_cmpR (op_neO (own_Family_eq T) T.ne_Family (hr.mono (by decide))) (pv 7) (pv 8) (nomark _)))))
 (pss_one (ps_ret pe_bl))
 pss_nil)
 (pss_cons (ps_par (i := 9) (j := 10) (by rfl) sc_law.nd rfl rfl (by decide) rfl rfl (pa_cons (pe_call (ok_law_of T) (hr.mono (by decide)) rfl T.g_law_of T.F_law_of.kp T.b_law_of .nil pass0 (pa_cons (pv 3) (pa_cons (pe_call0 (ok_law_licences T) (hr.mono (by decide)) rfl T.g_law_licences T.F_law_licences.kp T.b_law_licences .nil pass0) pa_nil))) (pa_cons (pe_call (ok_law_of T) (hr.mono (by decide)) rfl T.g_law_of T.F_law_of.kp T.b_law_of .nil pass0 (pa_cons (pv 3) (pa_cons (pe_call0 (ok_law_licences T) (hr.mono (by decide)) rfl T.g_law_licences T.F_law_licences.kp T.b_law_licences .nil pass0) pa_nil))) pa_nil)) (by rfl))
 (pss_cons (ps_if (pt_not (pt_val (pe_call (ok_law_family_right T) (hr.mono (by decide)) rfl T.g_law_family_right T.F_law_family_right.kp T.b_law_family_right .nil pass0 (pa_cons (ClX.pe_cmeth (pe_glob (v := .ref _) rfl T.g_Family rfl) T.cr_Family T.cm_Family_of (okR_Family_of T) (hr.mono (by decide)) passN (pa_cons (pv 9) (pa_cons (pv 10) pa_nil))) (pa_cons (pe_lst (pa_cons (pv 9) (pa_cons (pv 10) pa_nil))) pa_nil)))))
 (pss_one (ps_ret pe_bl))
 pss_nil)
 (pss_cons (ps_if (PW.pt (pw_or (pt_not (pt_val (pe_call (ok_law_family_right T) (hr.mono (by decide)) rfl T.g_law_family_right T.F_law_family_right.kp T.b_law_family_right .nil pass0 (pa_cons (ClX.pe_cmeth (pe_glob (v := .ref _) rfl T.g_Family rfl) T.cr_Family T.cm_Family_of (okR_Family_of T) (hr.mono (by decide)) passN (pa_cons (pv 9) pa_nil)) (pa_cons (pe_lst (pa_cons (pv 9) pa_nil)) pa_nil))))) (pw_or1 (pt_not (pt_val (pe_call (ok_law_family_right T) (hr.mono (by decide)) rfl T.g_law_family_right T.F_law_family_right.kp T.b_law_family_right .nil pass0 (pa_cons (pe_cmeth0 (pe_glob (v := .ref _) rfl T.g_Family rfl) T.cr_Family T.cm_Family_of (okR_Family_of T) (hr.mono (by decide)) passN) (pa_cons (pe_lst pa_nil) pa_nil))))))))
 (pss_one (ps_ret pe_bl))
 pss_nil)
 (pss_cons (ps_par (i := 11) (j := 12) (by rfl) sc_law.nd rfl rfl (by decide) rfl rfl (pa_cons (pe_call (ok_law_of T) (hr.mono (by decide)) rfl T.g_law_of T.F_law_of.kp T.b_law_of .nil pass0 (pa_cons (pv 3) (pa_cons (pv 1) pa_nil))) (pa_cons (pe_call (ok_law_of T) (hr.mono (by decide)) rfl T.g_law_of T.F_law_of.kp T.b_law_of .nil pass0 (pa_cons (pv 3) (pa_cons (pv 1) pa_nil))) pa_nil)) (by rfl))
 (pss_cons (ps_set (i := 13) sc_law.nd rfl (Or.inl rfl) (pe_call (ok_law_take T) (hr.mono (by decide)) rfl T.g_law_take T.F_law_take.kp T.b_law_take .nil pass0 (pa_cons (pv 3) (pa_cons (pe_op op_add (pe_callB call_lenSeq (by rfl) T.n_len (by decide +kernel) (pa_cons (pv 6) pa_nil)) pe_int) pa_nil))))
 (pss_cons (ps_if (pt_cmpR (op_neD hr.units) (pe_call (ok_law_refused T) (hr.mono (by decide)) rfl T.g_law_refused T.F_law_refused.kp T.b_law_refused .nil pass0 (pa_cons (pe_op op_cat (pe_op op_cat (pe_op op_cat (pe_slice sl_list (pv 6) po_none (po_some (pv 13))) (pe_lst (pa_cons (pv 11) pa_nil))) (pe_slice sl_list (pv 6) (po_some (pv 13)) po_none)) (pe_lst (pa_cons (pv 12) pa_nil))) pa_nil)) (pe_lst (pa_cons (pv 11) (pa_cons pe_bl (pa_cons pe_bl pa_nil)))) (nomark _))
 (pss_one (ps_ret pe_bl))
 pss_nil)
 (pss_cons (ps_if (pt_cmpR (op_neD hr.units) (pe_call (ok_law_refused T) (hr.mono (by decide)) rfl T.g_law_refused T.F_law_refused.kp T.b_law_refused .nil pass0 (pa_cons (pe_callTy call_tupOf (by rfl) T.n_tuple (by decide +kernel) (pa_cons (pe_op op_cat (pe_op op_cat (pe_lst (pa_cons (pv 12) pa_nil)) (pv 6)) (pe_lst (pa_cons (pv 11) pa_nil))) pa_nil)) pa_nil)) (pe_lst (pa_cons (pv 12) (pa_cons pe_bl (pa_cons pe_bl pa_nil)))) (nomark _))
 (pss_one (ps_ret pe_bl))
 pss_nil)
 (pss_one (ps_if (PW.pt (pw_or (pt_cmpR (op_neD hr.units) (pe_call (ok_law_one_refused T) hr rfl T.g_law_one_refused T.F_law_one_refused.kp T.b_law_one_refused .nil pass0 (pa_cons (pv 9) (pa_cons (pv 11) pa_nil))) (pe_lst (pa_cons (pv 11) pa_nil)) (nomark _)) (pw_or1 (pt_cmpR (op_neD hr.units) (pe_call (ok_law_one_refused T) hr rfl T.g_law_one_refused T.F_law_one_refused.kp T.b_law_one_refused .nil pass0 (pa_cons (pv 12) (pa_cons (pv 11) pa_nil))) (pe_lst (pa_cons (pv 12) pa_nil)) (nomark _)))))
 (pss_one (ps_ret pe_bl))
 pss_nil))))))))))))))))))))
 (pss_one (ps_ret pe_bl)))))), ?_⟩
    try simp only [cxK]
    lcg_off
    refine ⟨_, _, _, _, rfl, T.cr_Family, T.cv_Family_LICENCES, ?_⟩
    lcg_off
    refine new_list (Same.refl H) (.inr (lic_sq T H)) fun F1 H1 l1 g1 nl1 hl1 => ?_
    lcg_off
    refine lics_frz g1.fh fun F2 H2 l2 g2 nl2 hl2 => ?_
    lcg_off
    refine rd_neWL (sqL_of (g2.same _ _ (g1.fh _ _ hl1))) (sqL_of (g2.fh _ _ hl2)) lics_okT lics_okT ?_
    lcg_off
    refine ifF (by simp) ?_
    lcg_off
    refine ⟨_, _, _, _, rfl, T.cr_Family, T.cv_Family_LICENCES, ?_⟩
    lcg_off
    refine rd_isi (.ty _) (tyX_tup (lic_sq T H2)) (b := true) (by rfl) ?_
    lcg_off
    refine ifF rfl ?_
    lcg_off
    refine newLD (K := K) (ds := [.str "call"]) g2.fh (.one (.str _)) fun F3 H3 l3 g3 nl3 hl3 => ?_
    lcg_off
    refine newTD (K := K) (ds := [.str "call", .str "names"]) g3.fh (.cons (.str _) (.one (.str _))) fun F4 H4 l4 g4 nl4 hl4 => ?_
    lcg_off
    refine newLD (K := K) (ds := []) g4.fh .nil fun F5 H5 l5 g5 nl5 hl5 => ?_
    lcg_off
    refine rd_pow ⟨by decide, by decide, by decide⟩ ?_
    lcg_off
    refine newL g5.fh fun F6 H6 S g6 nS hSt => ?_
    have hall : DpAll K F5 [.non, .bl true, .int 0, .str "", .str "hook", .str "bare", .str "Call", .str "needs ", .str "own", .ref l3, .ref l4, .ref l5, .int (10 ^ 20)] oddD :=
      .cons .non (.cons (.bl _) (.cons (.int _) (.cons (.str _) (.cons (.str _) (.cons (.str _) (.cons (.str _) (.cons (.str _) (.cons (.str _) (.cons (hl3.mono (g4.ff.trans g5.ff)) (.cons (hl4.mono g5.ff) (.cons hl5 (.one (.int _)))))))))))))
    have hall := hall.mono g6.ff
    have hS6 : SqL K F6 sc (ns.map V.int) := (((((g1.ff.trans g2.ff).trans g3.ff).trans g4.ff).trans g5.ff).trans g6.ff).seq hS
    have e20 : (10 : Int) ^ Int.toNat 20 = 10 ^ 20 := rfl
    rw [e20] at hSt
    generalize hxs : [V.non, .bl true, .int 0, .str "", .str "hook", .str "bare", .str "Call", .str "needs ", .str "own", .ref l3, .ref l4, .ref l5, .int (10 ^ 20)] = xs at hall hSt
    have hxl : xs.length = 13 := hall.length
    have fh6 := g6.fh
    clear g1 g2 g3 g4 g5 g6
    lcg_off
    refine fk_range (fun i σ H' => ∃ u2 u3 u4 u5 u6 u7 u8 u9 u10 u11 u12 u13, σ = [some (.ref sc), some (.ref S), u2, u3, u4, u5, u6, u7, u8, u9, u10, u11, u12, u13] ∧ Same F6 H') ⟨_, _, _, _, _, _, _, _, _, _, _, _, rfl, fh6⟩ ?_ ?_
    · rintro i σ H' hi ⟨u2, u3, u4, u5, u6, u7, u8, u9, u10, u11, u12, u13, rfl, s'⟩
      lcg_off
      refine bag_ok (s'.seq hS6) (by omega) (by omega) hl fun b F0 H0 s0 hb0 => ?_
      have s60 : Same F6 F0 := s'.trans s0
      lcg_off
      refine fk_range (fun j σ H' => ∃ u4 u5 u6 u7 u8 u9 u10 u11 u12 u13 F', σ = [some (.ref sc), some (.ref S), some (.int (i : Nat)), some (.ref b), u4, u5, u6, u7, u8, u9, u10, u11, u12, u13] ∧ Same F6 F' ∧ Bag F' H' b) ⟨_, _, _, _, _, _, _, _, _, _, F0, rfl, s60, hb0⟩ ?_ ?_
      · rintro j σ H7 hj ⟨u4, u5, u6, u7, u8, u9, u10, u11, u12, u13, F7, rfl, s7, hb7⟩
        lcg_off
        refine ⟨F7, b, rfl, hb7, fun H8 p ws hw hwl np g8 hb8 hp8 => ?_⟩
        have npb : p ≠ b := fun e => hb7.nn (e ▸ np)
        have hsh : ∀ d ∈ ws.map sD, SeqAt.shaped d = true := fun d hd => let z := sD_ok hw d hd; sh_of ⟨z.1, z.2.1⟩
        lcg_off
        refine new_listH hb8.fh (sqL_of hp8.h) fun F9 H9 kp g9 nkp hkp => ?_
        have hb9 := hb8.go0 g9
        have hp9 := hp8.go0 g9
        lcg_off
        refine make_fam g9.fh (.inl (sqL_of hp9.h)) (sD_all ws) hsh (fam_good hw fun F10 H10 f1 g10 hf1 => ?_)
        have hb10 := hb9.go0 g10
        have hp10 := hp9.go0 g10
        lcg_off
        refine new_tupH g10.fh (sqL_of hp10.h) fun F11 H11 t1 g11 nt1 ht1 => ?_
        have hb11 := hb10.go0 g11
        have hp11 := hp10.go0 g11
        lcg_off
        refine make_fam g11.fh (.inr (sqT_of (g11.fh _ _ ht1))) (sD_all ws) hsh (fam_good hw fun F12 H12 f2 g12 hf2 => ?_)
        have hb12 := hb11.go0 g12
        have hp12 := hp11.go0 g12
        have hf112 := hf1.mono (g11.ff.trans g12.ff)
        have hkp12 := g12.ff _ _ (g11.ff _ _ (g10.ff _ _ hkp))
        lcg_off
        refine ⟨F12, f1, kp, ws, rfl, g12.fh, hf112, sqL_of hkp12, fun F13 H13 g13 => ?_⟩
        have hb13 := hb12.go0 g13
        have hp13 := hp12.go0 g13
        have hkp13 := g13.ff _ _ hkp12
        have hf113 := hf112.mono g13.ff
        have hf213 := hf2.mono g13.ff
        lcg_off
        refine ifF rfl ?_
        lcg_off
        refine ⟨F13, f2, kp, ws, rfl, g13.fh, hf213, sqL_of hkp13, fun F14 H14 g14 => ?_⟩
        have hb14 := hb13.go0 g14
        have hp14 := hp13.go0 g14
        have hkp14 := g14.ff _ _ hkp13
        have hf114 := hf113.mono g14.ff
        have hf214 := hf213.mono g14.ff
        lcg_off
        refine ifF rfl ?_
        lcg_off
        refine rd_neWL (sqL_of hp14.h) (sqL_of (g14.fh _ _ hkp14)) (fun w h => lics_okT w (hw w h)) (fun w h => lics_okT w (hw w h)) ?_
        lcg_off
        refine ifF (by simp) ?_
        have hp14h := hp14.h
        lcg_off
        refine rd_append hp14.h (sz_lt (by rw [List.length_map]; omega)) ?_
        have hb15 := hb14.mut (u := .lst (ws.map wd ++ [.str "copy"])) hp14 npb
        have hp15 := hp14.put (u := .lst (ws.map wd ++ [.str "copy"]))
        have hp15h := hp15.h
        lcg_off
        refine rd_append hp15.h (sz_lt (by simp; omega)) ?_
        have hb16 := hb15.mut (u := .lst (ws.map wd ++ [.str "copy"] ++ [.str "nothing"])) hp15 npb
        have s76 : Same F6 F14 := s7.trans (g9.ff.trans (g10.ff.trans (g11.ff.trans (g12.ff.trans (g13.ff.trans g14.ff)))))
        generalize upd (upd H14 p (.lst (ws.map wd ++ [.str "copy"]))) p (.lst (ws.map wd ++ [.str "copy"] ++ [.str "nothing"])) = H16 at hb16
        lcg_off
        refine ⟨F14, f1, kp, ws, rfl, hb16.fh, hf114, sqL_of hkp14, fun F17 H17 g17 => ?_⟩
        have hb17 := hb16.go0 g17
        lcg_off
        refine ifF rfl ?_
        lcg_off
        refine ask_ne g17.fh (hf114.mono g17.ff) (hf214.mono g17.ff) (fun w h => fam_sub h) (fun w h => fam_sub h) ?_
        lcg_off
        refine ifF (by simp) ?_
        lcg_off
        refine lics_frz hb17.fh fun F18 H18 m1 g18 nm1 hm1 => ?_
        lcg_off
        refine of_words (hb17.go0 g18) hm1 (by decide) (by decide) fun o1 H19 ho1 g19 hb19 => ?_
        lcg_off
        refine lics_frz hb19.fh fun F20 H20 m2 g20 nm2 hm2 => ?_
        lcg_off
        refine of_words (hb19.go0 g20) hm2 (by decide) (by decide) fun o2 H21 ho2 g21 hb21 => ?_
        have hw2 : ∀ w ∈ [o1, o2], w ∈ LICS := by
          intro w h
          simp only [List.mem_cons, List.not_mem_nil, or_false] at h
          rcases h with rfl | rfl
          · exact ho1
          · exact ho2
        have hw1 : ∀ w ∈ [o1], w ∈ LICS := by
          intro w h
          rw [List.mem_singleton.mp h]
          exact ho1
        lcg_off
        refine of_fam (xs := [o1, o2].map wd) hb21.fh (by simp) (sD_all [o1, o2]) (fun d hd => let z := sD_ok hw2 d hd; sh_of ⟨z.1, z.2.1⟩) (fam_good hw2 fun F22 H22 f3 g22 hf3 => ?_)
        lcg_off
        refine newL g22.fh fun F23 H23 l23 g23 nl23 hl23 => ?_
        lcg_off
        refine ⟨F23, f3, l23, [o1, o2], rfl, g23.fh, hf3.mono g23.ff, sqL_of hl23, fun F24 H24 g24 => ?_⟩
        have g2124 := (g22.trans g23).trans g24
        have hb24 := hb21.go0 g2124
        lcg_off
        refine ifF rfl ?_
        lcg_off
        refine of_fam (xs := [o1].map wd) hb24.fh (by simp) (sD_all [o1]) (fun d hd => let z := sD_ok hw1 d hd; sh_of ⟨z.1, z.2.1⟩) (fam_good hw1 fun F25 H25 f4 g25 hf4 => ?_)
        lcg_off
        refine newL g25.fh fun F26 H26 l26 g26 nl26 hl26 => ?_
        lcg_off
        refine ⟨F26, f4, l26, [o1], rfl, g26.fh, hf4.mono g26.ff, sqL_of hl26, fun F27 H27 g27 => ?_⟩
        have g2427 := (g25.trans g26).trans g27
        have hb27 := hb24.go0 g2427
        lcg_off
        refine ifF rfl ?_
        lcg_off
        refine of_fam (xs := ([] : List (List Nat)).map wd) hb27.fh (by simp) (sD_all []) (fun d hd => by cases hd) (fam_good (by simp) fun F28 H28 f5 g28 hf5 => ?_)
        lcg_off
        refine newL g28.fh fun F29 H29 l29 g29 nl29 hl29 => ?_
        lcg_off
        refine ⟨F29, f5, l29, [], rfl, g29.fh, hf5.mono g29.ff, sqL_of hl29, fun F30 H30 g30 => ?_⟩
        have g2730 := (g28.trans g29).trans g30
        have hb30 := hb27.go0 g2730
        have s1430 : Same F14 F30 := g17.ff.trans (g18.ff.trans (g20.ff.trans (g2124.ff.trans (g2427.ff.trans g2730.ff))))
        have s630 := s76.trans s1430
        have hkp30 := s1430 _ _ hkp14
        clear g17 g18 g20 g22 g23 g24 g25 g26 g27 g28 g29 g30 g2124 g2427 g2730
        lcg_off
        refine ifF rfl ?_
        lcg_off
        refine ⟨F30, b, S, xs, rfl, hb30, sqL_of (s630 _ _ hSt), by omega, by omega, fun i1 x1 H31 hx1 g31 hb31 => ?_⟩
        obtain ⟨d1, hd1, hD1⟩ := (hall.mono s630).get hx1
        obtain ⟨hk1, hn1⟩ := oddD_ok d1 (List.mem_of_getElem? hd1)
        lcg_off
        refine ⟨F30, b, S, xs, rfl, hb31, sqL_of (s630 _ _ hSt), by omega, by omega, fun i2 x2 H32 hx2 g32 hb32 => ?_⟩
        obtain ⟨d2, hd2, hD2⟩ := (hall.mono s630).get hx2
        obtain ⟨hk2, hn2⟩ := oddD_ok d2 (List.mem_of_getElem? hd2)
        have hkp32 := hb32.fh _ _ hkp30
        lcg_off
        rw [List.length_map]
        refine take_ok hb32 (by omega) (by omega) fun r H33 hr33 g33 hb33 => ?_
        have hrl : r ≤ ws.length := by omega
        lcg_off
        refine new_sl hb33.fh (sqL_of hkp30) fun F34 H34 c1 g34 nc1 hc1 => ?_
        rw [cut_take (by rw [List.length_map]; omega)] at hc1
        lcg_off
        refine newL g34.fh fun F35 H35 c2 g35 nc2 hc2 => ?_
        lcg_off
        refine new_cat g35.fh (g35.fh _ _ (g35.ff _ _ hc1)) (g35.fh _ _ hc2) (by simp; omega) fun F36 H36 c3 g36 nc3 hc3 => ?_
        lcg_off
        refine new_sl g36.fh (sqL_of (g36.ff _ _ (g35.ff _ _ (g34.ff _ _ hkp30)))) fun F37 H37 c4 g37 nc4 hc4 => ?_
        rw [cut_drop (by rw [List.length_map]; omega)] at hc4
        lcg_off
        refine new_cat g37.fh (g37.fh _ _ (g37.ff _ _ hc3)) (g37.fh _ _ hc4) (by simp; omega) fun F38 H38 c5 g38 nc5 hc5 => ?_
        lcg_off
        refine newL g38.fh fun F39 H39 c6 g39 nc6 hc6 => ?_
        lcg_off
        refine new_cat g39.fh (g39.fh _ _ (g39.ff _ _ hc5)) (g39.fh _ _ hc6) (by simp; omega) fun F40 H40 c7 g40 nc7 hc7 => ?_
        have g3340 := ((((((g34.trans g35).trans g36).trans g37).trans g38).trans g39).trans g40)
        have hb40 := hb33.go0 g3340
        have hD140 := hD1.mono g3340.ff
        have hD240 := hD2.mono g3340.ff
        have hkp40 := g3340.ff _ _ hkp30
        have hd40 : DpAll K F40 ((ws.map wd).take r ++ [x1] ++ (ws.map wd).drop r ++ [x2]) ((ws.take r).map sD ++ [d1] ++ (ws.drop r).map sD ++ [d2]) := by
          rw [← List.map_take, ← List.map_drop]
          exact (((sD_all _).app (.one hD140)).app (sD_all _)).app (.one hD240)
        have hsh40 : ∀ d ∈ ((ws.take r).map sD ++ [d1] ++ (ws.drop r).map sD ++ [d2]), SeqAt.shaped d = true := by
          intro d hd
          simp only [List.mem_append, List.mem_singleton] at hd
          rcases hd with ((h | rfl) | h) | rfl
          · have z := sD_ok (fun w h => hw w (List.mem_of_mem_take h)) d h
            exact sh_of ⟨z.1, z.2.1⟩
          · exact sh_of hk1
          · have z := sD_ok (fun w h => hw w (List.mem_of_mem_drop h)) d h
            exact sh_of ⟨z.1, z.2.1⟩
          · exact sh_of hk2
        have hfb : FirstBad ((ws.map wd).take r ++ [x1] ++ (ws.map wd).drop r ++ [x2]) ((ws.take r).map sD ++ [d1] ++ (ws.drop r).map sD ++ [d2]) d1 x1 := by
          refine ⟨r, ?_, ?_, hn1, fun j e hj he => ?_⟩
          · rw [List.append_assoc, List.append_assoc, List.getElem?_append_right (by rw [List.length_take]; omega)]
            rw [List.length_take, List.length_map, Nat.min_eq_left hrl, Nat.sub_self]
            rfl
          · rw [List.append_assoc, List.append_assoc, List.getElem?_append_right (by rw [List.length_map, List.length_take]; omega)]
            rw [List.length_map, List.length_take, Nat.min_eq_left hrl, Nat.sub_self]
            rfl
          · rw [List.append_assoc, List.append_assoc, List.getElem?_append_left (by rw [List.length_map, List.length_take]; omega)] at he
            exact (sD_ok (fun w h => hw w (List.mem_of_mem_take h)) e (List.mem_of_getElem? he)).2.2
        lcg_off
        refine ⟨F40, c7, _, _, d1, x1, rfl, hb40.fh, .inl (sqL_of (hb40.fh _ _ hc7)), hd40, hsh40, hfb, fun F41 H41 v41 g41 hv41 => ?_⟩
        lcg_off
        refine newLD (K := K) (ds := [d1, .bool true, .bool true]) g41.fh (.cons (hD140.mono g41.ff) (.cons (.bl _) (.one (.bl _)))) fun F42 H42 l42 g42 nl42 hl42 => ?_
        have sh3 : ∀ {d : PyData}, (PyData.canLay0 d = true ∧ PyData.depth d ≤ 1) → SeqAt.shaped (.list [d, .bool true, .bool true]) = true := fun {d} h => shaped_list 1 (fun e he => by
          simp only [List.mem_cons, List.not_mem_nil, or_false] at he
          rcases he with rfl | rfl | rfl
          · exact h.1
          · rfl
          · rfl) (fun e he => by
          simp only [List.mem_cons, List.not_mem_nil, or_false] at he
          rcases he with rfl | rfl | rfl
          · exact h.2
          · decide
          · decide) (by omega)
        have sh1 : ∀ {d : PyData}, (PyData.canLay0 d = true ∧ PyData.depth d ≤ 1) → SeqAt.shaped (.list [d]) = true := fun {d} h => shaped_list 1 (fun e he => by
          rw [List.mem_singleton.mp he]
          exact h.1) (fun e he => by
          rw [List.mem_singleton.mp he]
          exact h.2) (by omega)
        refine ne_dat (hv41.mono g42.ff) hl42 g42.fh (sh3 hk1) ?_
        lcg_off
        refine ifF rfl ?_
        have g4042 := g41.trans g42
        have hb42 := hb40.go0 g4042
        have hD142 := hD140.mono g4042.ff
        have hD242 := hD240.mono g4042.ff
        have hkp42 := g4042.ff _ _ hkp40
        lcg_off
        refine newL hb42.fh fun F43 H43 e1 g43 ne1 he1 => ?_
        lcg_off
        refine new_cat g43.fh (g43.fh _ _ he1) (g43.fh _ _ (g43.ff _ _ hkp42)) (by simp; omega) fun F44 H44 e2 g44 ne2 he2 => ?_
        lcg_off
        refine newL g44.fh fun F45 H45 e3 g45 ne3 he3 => ?_
        lcg_off
        refine new_cat g45.fh (g45.fh _ _ (g45.ff _ _ he2)) (g45.fh _ _ he3) (by simp; omega) fun F46 H46 e4 g46 ne4 he4 => ?_
        lcg_off
        refine new_tupH g46.fh (sqL_of (g46.fh _ _ he4)) fun F47 H47 e5 g47 ne5 he5 => ?_
        have g4247 := (((g43.trans g44).trans g45).trans g46).trans g47
        have hb47 := hb42.go0 g4247
        have hD147 := hD142.mono g4247.ff
        have hD247 := hD242.mono g4247.ff
        have hd47 : DpAll K F47 ([x2] ++ ws.map wd ++ [x1]) ([d2] ++ ws.map sD ++ [d1]) := ((DpAll.one hD247).app (sD_all _)).app (.one hD147)
        have hsh47 : ∀ d ∈ ([d2] ++ ws.map sD ++ [d1]), SeqAt.shaped d = true := by
          intro d hd
          simp only [List.mem_append, List.mem_singleton] at hd
          rcases hd with (rfl | h) | rfl
          · exact sh_of hk2
          · exact hsh d h
          · exact sh_of hk1
        lcg_off
        refine ⟨F47, e5, _, _, d2, x2, rfl, hb47.fh, .inr (sqT_of (hb47.fh _ _ he5)), hd47, hsh47, ⟨0, rfl, rfl, hn2, fun j e hj => by omega⟩, fun F48 H48 v48 g48 hv48 => ?_⟩
        lcg_off
        refine newLD (K := K) (ds := [d2, .bool true, .bool true]) g48.fh (.cons (hD247.mono g48.ff) (.cons (.bl _) (.one (.bl _)))) fun F49 H49 l49 g49 nl49 hl49 => ?_
        refine ne_dat (hv48.mono g49.ff) hl49 g49.fh (sh3 hk2) ?_
        lcg_off
        refine ifF rfl ?_
        have g4749 := g48.trans g49
        have hb49 := hb47.go0 g4749
        have hD149 := hD147.mono g4749.ff
        have hD249 := hD247.mono g4749.ff
        have zo1 := sD_ok hw1 (sD o1) (by simp)
        lcg_off
        refine ⟨F49, _, x1, [sD o1, d1], d1, x1, rfl, hb49.fh, .cons (.str _) (.one hD149), ?_, ⟨1, rfl, rfl, hn1, fun j e hj he => ?_⟩, fun F50 H50 v50 g50 hv50 => ?_⟩
        · intro d hd
          simp only [List.mem_cons, List.not_mem_nil, or_false] at hd
          rcases hd with rfl | rfl
          · exact sh_of ⟨zo1.1, zo1.2.1⟩
          · exact sh_of hk1
        · obtain rfl : j = 0 := by omega
          cases he
          exact zo1.2.2
        lcg_off
        refine newLD (K := K) (ds := [d1]) g50.fh (.one (hD149.mono g50.ff)) fun F51 H51 l51 g51 nl51 hl51 => ?_
        refine ne_dat (hv50.mono g51.ff) hl51 g51.fh (sh1 hk1) ?_
        lcg_off
        refine ifF rfl ?_
        have g4951 := g50.trans g51
        have hb51 := hb49.go0 g4951
        have hD151 := hD149.mono g4951.ff
        have hD251 := hD249.mono g4951.ff
        lcg_off
        refine ⟨F51, x2, x1, [d2, d1], d2, x2, rfl, hb51.fh, .cons hD251 (.one hD151), ?_, ⟨0, rfl, rfl, hn2, fun j e hj => by omega⟩, fun F52 H52 v52 g52 hv52 => ?_⟩
        · intro d hd
          simp only [List.mem_cons, List.not_mem_nil, or_false] at hd
          rcases hd with rfl | rfl
          · exact sh_of hk2
          · exact sh_of hk1
        lcg_off
        refine newLD (K := K) (ds := [d2]) g52.fh (.one (hD251.mono g52.ff)) fun F53 H53 l53 g53 nl53 hl53 => ?_
        refine ne_dat (hv52.mono g53.ff) hl53 g53.fh (sh1 hk2) ?_
        lcg_off
        refine ifF rfl ?_
        have g5153 := g52.trans g53
        have hb53 := hb51.go0 g5153
        lcg_off
        exact ⟨_, _, _, _, _, _, _, _, _, _, F53, rfl, s630.trans (g3340.ff.trans (g4042.ff.trans (g4247.ff.trans (g4749.ff.trans (g4951.ff.trans g5153.ff))))), hb53⟩
      · rintro σ H7 ⟨u4, u5, u6, u7, u8, u9, u10, u11, u12, u13, F7, rfl, s7, hb7⟩
        lcg_off
        exact ⟨_, _, _, _, _, _, _, _, _, _, _, _, rfl, s7.trans hb7.fh⟩
    · rintro σ H' ⟨u2, u3, u4, u5, u6, u7, u8, u9, u10, u11, u12, u13, rfl, s'⟩
      lcg_off
      exact k H'
end
end Ex

section
open PySem PySem.W PyProof.Rows
set_option maxHeartbeats 0 in
open_top hd for PySem.Challenge.rw_heirsback_k86_families_made
end
namespace Ex
open PySem L2 Hk
theorem all_mk {l : PySem.W.OpenLaw} {w : World} {K : PySem.W.Frag} {h : Heap} {mg : Str → Option Value} {fa : Addr} (X : K.In h) (G : h.Ns mainGlobals mg) (hfa : mg "law" = some (.ref fa))
    {f_BadFamily_init : Addr} {od_BadFamily_init an_BadFamily_init : Option Addr} {sl_BadFamily_init : Array (Option Value)} {oc_BadFamily_init kV_BadFamily_init dc_BadFamily_init pm_BadFamily_init cd_BadFamily_init ct_BadFamily_init : Value}
    {f_Family_init : Addr} {od_Family_init an_Family_init : Option Addr} {sl_Family_init : Array (Option Value)} {oc_Family_init kV_Family_init dc_Family_init pm_Family_init cd_Family_init ct_Family_init : Value}
    {f_Family_of : Addr} {od_Family_of an_Family_of : Option Addr} {sl_Family_of : Array (Option Value)} {oc_Family_of kV_Family_of dc_Family_of pm_Family_of cd_Family_of ct_Family_of : Value}
    {p_Family_of : Addr} {r_Family_of : List Value}
    {f_Family_contains : Addr} {od_Family_contains an_Family_contains : Option Addr} {sl_Family_contains : Array (Option Value)} {oc_Family_contains kV_Family_contains dc_Family_contains pm_Family_contains cd_Family_contains ct_Family_contains : Value}
    {f_Family_len : Addr} {od_Family_len an_Family_len : Option Addr} {sl_Family_len : Array (Option Value)} {oc_Family_len kV_Family_len dc_Family_len pm_Family_len cd_Family_len ct_Family_len : Value}
    {f_Family_bool : Addr} {od_Family_bool an_Family_bool : Option Addr} {sl_Family_bool : Array (Option Value)} {oc_Family_bool kV_Family_bool dc_Family_bool pm_Family_bool cd_Family_bool ct_Family_bool : Value}
    {f_Family_eq : Addr} {od_Family_eq an_Family_eq : Option Addr} {sl_Family_eq : Array (Option Value)} {oc_Family_eq kV_Family_eq dc_Family_eq pm_Family_eq cd_Family_eq ct_Family_eq : Value}
    {f_Family_repr : Addr} {od_Family_repr an_Family_repr : Option Addr} {sl_Family_repr : Array (Option Value)} {oc_Family_repr kV_Family_repr dc_Family_repr pm_Family_repr cd_Family_repr ct_Family_repr : Value}
    {f_law_bag : Addr} {od_law_bag an_law_bag : Option Addr} {sl_law_bag : Array (Option Value)} {oc_law_bag kV_law_bag dc_law_bag pm_law_bag cd_law_bag ct_law_bag : Value}
    {f_law_take : Addr} {od_law_take an_law_take : Option Addr} {sl_law_take : Array (Option Value)} {oc_law_take kV_law_take dc_law_take pm_law_take cd_law_take ct_law_take : Value}
    {f_law_of : Addr} {od_law_of an_law_of : Option Addr} {sl_law_of : Array (Option Value)} {oc_law_of kV_law_of dc_law_of pm_law_of cd_law_of ct_law_of : Value}
    {f_law_licences : Addr} {od_law_licences an_law_licences : Option Addr} {sl_law_licences : Array (Option Value)} {oc_law_licences kV_law_licences dc_law_licences pm_law_licences cd_law_licences ct_law_licences : Value}
    {f_law_some : Addr} {od_law_some an_law_some : Option Addr} {sl_law_some : Array (Option Value)} {oc_law_some kV_law_some dc_law_some pm_law_some cd_law_some ct_law_some : Value}
    {f_law_sorted : Addr} {od_law_sorted an_law_sorted : Option Addr} {sl_law_sorted : Array (Option Value)} {oc_law_sorted kV_law_sorted dc_law_sorted pm_law_sorted cd_law_sorted ct_law_sorted : Value}
    {f_law_refused : Addr} {od_law_refused an_law_refused : Option Addr} {sl_law_refused : Array (Option Value)} {oc_law_refused kV_law_refused dc_law_refused pm_law_refused cd_law_refused ct_law_refused : Value}
    {f_law_one_refused : Addr} {od_law_one_refused an_law_one_refused : Option Addr} {sl_law_one_refused : Array (Option Value)} {oc_law_one_refused kV_law_one_refused dc_law_one_refused pm_law_one_refused cd_law_one_refused ct_law_one_refused : Value}
    {f_law_family_right : Addr} {od_law_family_right an_law_family_right : Option Addr} {sl_law_family_right : Array (Option Value)} {oc_law_family_right kV_law_family_right dc_law_family_right pm_law_family_right cd_law_family_right ct_law_family_right : Value}
    {f_law : Addr} {od_law an_law : Option Addr} {sl_law : Array (Option Value)} {oc_law kV_law dc_law pm_law cd_law ct_law : Value}
    {C_Family : Addr}
    {ad_Family_LICENCES : Addr} {od_Family_LICENCES : Option Addr} {n_Family_LICENCES : Nat} {sl_Family_LICENCES : Array (Option Value)} {t0_Family_LICENCES : Tok} {t1_Family_LICENCES : Tok} {t2_Family_LICENCES : Tok} {t3_Family_LICENCES : Tok} {t4_Family_LICENCES : Tok} {t5_Family_LICENCES : Tok} {t6_Family_LICENCES : Tok} {t7_Family_LICENCES : Tok} {t8_Family_LICENCES : Tok} {t9_Family_LICENCES : Tok}
    {C_World : Addr}
    {C_BadFamily : Addr}
    {nm_BadFamily q_BadFamily : Str} {N_BadFamily : Addr} {bs_BadFamily bm_BadFamily : List Value} {sn_BadFamily : List Str} {sub_BadFamily : List Value} {ab_BadFamily : Bool} {col_BadFamily : Option Bool} {dd_BadFamily : Option Addr} {k0_BadFamily k1_BadFamily k2_BadFamily k3_BadFamily k5_BadFamily : Option Value}
    {C_HeirsbackError : Addr}
    (a_C_Family : PySem.W.nsIn K mainGlobals "Family" = some (some (.ref C_Family)))
    (a_C_World : PySem.W.nsIn K mainGlobals "World" = some (some (.ref C_World)))
    (a_C_BadFamily : PySem.W.nsIn K mainGlobals "BadFamily" = some (some (.ref C_BadFamily)))
    (a_C_HeirsbackError : PySem.W.nsIn K mainGlobals "HeirsbackError" = some (some (.ref C_HeirsbackError)))
    (a_BadFamily_init : PySem.W.findIn K (.ref C_BadFamily) "__init__" = some (some (.ref f_BadFamily_init)))
    (i_BadFamily_init : PySem.W.isFn K (.ref f_BadFamily_init) = true)
    (l_BadFamily_init : K.lookup f_BadFamily_init = some ⟨oc_BadFamily_init, od_BadFamily_init, .func (PySem.W.fnOf "__init__" "BadFamily.__init__" (defArgs s_BadFamily_init) (defBody s_BadFamily_init) (defScope s_BadFamily_init) .none kV_BadFamily_init dc_BadFamily_init pm_BadFamily_init an_BadFamily_init cd_BadFamily_init ct_BadFamily_init), sl_BadFamily_init⟩)
    (c_BadFamily_init : PySem.W.codeIn K cd_BadFamily_init "BadFamily.__init__" = true)
    (k_BadFamily_init : PySem.W.keepIn K (.ref f_BadFamily_init) = true)
    (a_Family_init : PySem.W.findIn K (.ref C_Family) "__init__" = some (some (.ref f_Family_init)))
    (i_Family_init : PySem.W.isFn K (.ref f_Family_init) = true)
    (l_Family_init : K.lookup f_Family_init = some ⟨oc_Family_init, od_Family_init, .func (PySem.W.fnOf "__init__" "Family.__init__" (defArgs s_Family_init) (defBody s_Family_init) (defScope s_Family_init) .none kV_Family_init dc_Family_init pm_Family_init an_Family_init cd_Family_init ct_Family_init), sl_Family_init⟩)
    (c_Family_init : PySem.W.codeIn K cd_Family_init "Family.__init__" = true)
    (k_Family_init : PySem.W.keepIn K (.ref f_Family_init) = true)
    (a_Family_of : PySem.W.findCls K (.ref C_Family) (.type "type") "of" = some (.get (.builtin "classmethod.__get__") (.ref p_Family_of) .none (.ref C_Family)))
    (rc_Family_of : PySem.W.recIn K p_Family_of "classmethod" = some (.ref f_Family_of :: r_Family_of))
    (fi_Family_of : PySem.W.fnIn K f_Family_of = true)
    (l_Family_of : K.lookup f_Family_of = some ⟨oc_Family_of, od_Family_of, .func (PySem.W.fnOf "of" "Family.of" (defArgs s_Family_of) (defBody s_Family_of) (defScope s_Family_of) .none kV_Family_of dc_Family_of pm_Family_of an_Family_of cd_Family_of ct_Family_of), sl_Family_of⟩)
    (c_Family_of : PySem.W.codeIn K cd_Family_of "Family.of" = true)
    (k_Family_of : PySem.W.keepIn K (.ref f_Family_of) = true)
    (a_Family_contains : PySem.W.findIn K (.ref C_Family) "__contains__" = some (some (.ref f_Family_contains)))
    (i_Family_contains : PySem.W.isFn K (.ref f_Family_contains) = true)
    (l_Family_contains : K.lookup f_Family_contains = some ⟨oc_Family_contains, od_Family_contains, .func (PySem.W.fnOf "__contains__" "Family.__contains__" (defArgs s_Family_contains) (defBody s_Family_contains) (defScope s_Family_contains) .none kV_Family_contains dc_Family_contains pm_Family_contains an_Family_contains cd_Family_contains ct_Family_contains), sl_Family_contains⟩)
    (c_Family_contains : PySem.W.codeIn K cd_Family_contains "Family.__contains__" = true)
    (k_Family_contains : PySem.W.keepIn K (.ref f_Family_contains) = true)
    (a_Family_len : PySem.W.findIn K (.ref C_Family) "__len__" = some (some (.ref f_Family_len)))
    (i_Family_len : PySem.W.isFn K (.ref f_Family_len) = true)
    (l_Family_len : K.lookup f_Family_len = some ⟨oc_Family_len, od_Family_len, .func (PySem.W.fnOf "__len__" "Family.__len__" (defArgs s_Family_len) (defBody s_Family_len) (defScope s_Family_len) .none kV_Family_len dc_Family_len pm_Family_len an_Family_len cd_Family_len ct_Family_len), sl_Family_len⟩)
    (c_Family_len : PySem.W.codeIn K cd_Family_len "Family.__len__" = true)
    (k_Family_len : PySem.W.keepIn K (.ref f_Family_len) = true)
    (a_Family_bool : PySem.W.findIn K (.ref C_Family) "__bool__" = some (some (.ref f_Family_bool)))
    (i_Family_bool : PySem.W.isFn K (.ref f_Family_bool) = true)
    (l_Family_bool : K.lookup f_Family_bool = some ⟨oc_Family_bool, od_Family_bool, .func (PySem.W.fnOf "__bool__" "Family.__bool__" (defArgs s_Family_bool) (defBody s_Family_bool) (defScope s_Family_bool) .none kV_Family_bool dc_Family_bool pm_Family_bool an_Family_bool cd_Family_bool ct_Family_bool), sl_Family_bool⟩)
    (c_Family_bool : PySem.W.codeIn K cd_Family_bool "Family.__bool__" = true)
    (k_Family_bool : PySem.W.keepIn K (.ref f_Family_bool) = true)
    (a_Family_eq : PySem.W.findIn K (.ref C_Family) "__eq__" = some (some (.ref f_Family_eq)))
    (i_Family_eq : PySem.W.isFn K (.ref f_Family_eq) = true)
    (l_Family_eq : K.lookup f_Family_eq = some ⟨oc_Family_eq, od_Family_eq, .func (PySem.W.fnOf "__eq__" "Family.__eq__" (defArgs s_Family_eq) (defBody s_Family_eq) (defScope s_Family_eq) .none kV_Family_eq dc_Family_eq pm_Family_eq an_Family_eq cd_Family_eq ct_Family_eq), sl_Family_eq⟩)
    (c_Family_eq : PySem.W.codeIn K cd_Family_eq "Family.__eq__" = true)
    (k_Family_eq : PySem.W.keepIn K (.ref f_Family_eq) = true)
    (a_Family_repr : PySem.W.findIn K (.ref C_Family) "__repr__" = some (some (.ref f_Family_repr)))
    (i_Family_repr : PySem.W.isFn K (.ref f_Family_repr) = true)
    (l_Family_repr : K.lookup f_Family_repr = some ⟨oc_Family_repr, od_Family_repr, .func (PySem.W.fnOf "__repr__" "Family.__repr__" (defArgs s_Family_repr) (defBody s_Family_repr) (defScope s_Family_repr) .none kV_Family_repr dc_Family_repr pm_Family_repr an_Family_repr cd_Family_repr ct_Family_repr), sl_Family_repr⟩)
    (c_Family_repr : PySem.W.codeIn K cd_Family_repr "Family.__repr__" = true)
    (k_Family_repr : PySem.W.keepIn K (.ref f_Family_repr) = true)
    (a_law_bag : PySem.W.nsIn K mainGlobals "_law_bag" = some (some (.ref f_law_bag)))
    (l_law_bag : K.lookup f_law_bag = some ⟨oc_law_bag, od_law_bag, .func (PySem.W.fnOf "_law_bag" "_law_bag" (defArgs s_law_bag) (defBody s_law_bag) (defScope s_law_bag) .none kV_law_bag dc_law_bag pm_law_bag an_law_bag cd_law_bag ct_law_bag), sl_law_bag⟩)
    (c_law_bag : PySem.W.codeIn K cd_law_bag "_law_bag" = true)
    (k_law_bag : PySem.W.keepIn K (.ref f_law_bag) = true)
    (a_law_take : PySem.W.nsIn K mainGlobals "_law_take" = some (some (.ref f_law_take)))
    (l_law_take : K.lookup f_law_take = some ⟨oc_law_take, od_law_take, .func (PySem.W.fnOf "_law_take" "_law_take" (defArgs s_law_take) (defBody s_law_take) (defScope s_law_take) .none kV_law_take dc_law_take pm_law_take an_law_take cd_law_take ct_law_take), sl_law_take⟩)
    (c_law_take : PySem.W.codeIn K cd_law_take "_law_take" = true)
    (k_law_take : PySem.W.keepIn K (.ref f_law_take) = true)
    (a_law_of : PySem.W.nsIn K mainGlobals "_law_of" = some (some (.ref f_law_of)))
    (l_law_of : K.lookup f_law_of = some ⟨oc_law_of, od_law_of, .func (PySem.W.fnOf "_law_of" "_law_of" (defArgs s_law_of) (defBody s_law_of) (defScope s_law_of) .none kV_law_of dc_law_of pm_law_of an_law_of cd_law_of ct_law_of), sl_law_of⟩)
    (c_law_of : PySem.W.codeIn K cd_law_of "_law_of" = true)
    (k_law_of : PySem.W.keepIn K (.ref f_law_of) = true)
    (a_law_licences : PySem.W.nsIn K mainGlobals "_law_licences" = some (some (.ref f_law_licences)))
    (l_law_licences : K.lookup f_law_licences = some ⟨oc_law_licences, od_law_licences, .func (PySem.W.fnOf "_law_licences" "_law_licences" (defArgs s_law_licences) (defBody s_law_licences) (defScope s_law_licences) .none kV_law_licences dc_law_licences pm_law_licences an_law_licences cd_law_licences ct_law_licences), sl_law_licences⟩)
    (c_law_licences : PySem.W.codeIn K cd_law_licences "_law_licences" = true)
    (k_law_licences : PySem.W.keepIn K (.ref f_law_licences) = true)
    (a_law_some : PySem.W.nsIn K mainGlobals "_law_some" = some (some (.ref f_law_some)))
    (l_law_some : K.lookup f_law_some = some ⟨oc_law_some, od_law_some, .func (PySem.W.fnOf "_law_some" "_law_some" (defArgs s_law_some) (defBody s_law_some) (defScope s_law_some) .none kV_law_some dc_law_some pm_law_some an_law_some cd_law_some ct_law_some), sl_law_some⟩)
    (c_law_some : PySem.W.codeIn K cd_law_some "_law_some" = true)
    (k_law_some : PySem.W.keepIn K (.ref f_law_some) = true)
    (a_law_sorted : PySem.W.nsIn K mainGlobals "_law_sorted" = some (some (.ref f_law_sorted)))
    (l_law_sorted : K.lookup f_law_sorted = some ⟨oc_law_sorted, od_law_sorted, .func (PySem.W.fnOf "_law_sorted" "_law_sorted" (defArgs s_law_sorted) (defBody s_law_sorted) (defScope s_law_sorted) .none kV_law_sorted dc_law_sorted pm_law_sorted an_law_sorted cd_law_sorted ct_law_sorted), sl_law_sorted⟩)
    (c_law_sorted : PySem.W.codeIn K cd_law_sorted "_law_sorted" = true)
    (k_law_sorted : PySem.W.keepIn K (.ref f_law_sorted) = true)
    (a_law_refused : PySem.W.nsIn K mainGlobals "_law_refused" = some (some (.ref f_law_refused)))
    (l_law_refused : K.lookup f_law_refused = some ⟨oc_law_refused, od_law_refused, .func (PySem.W.fnOf "_law_refused" "_law_refused" (defArgs s_law_refused) (defBody s_law_refused) (defScope s_law_refused) .none kV_law_refused dc_law_refused pm_law_refused an_law_refused cd_law_refused ct_law_refused), sl_law_refused⟩)
    (c_law_refused : PySem.W.codeIn K cd_law_refused "_law_refused" = true)
    (k_law_refused : PySem.W.keepIn K (.ref f_law_refused) = true)
    (a_law_one_refused : PySem.W.nsIn K mainGlobals "_law_one_refused" = some (some (.ref f_law_one_refused)))
    (l_law_one_refused : K.lookup f_law_one_refused = some ⟨oc_law_one_refused, od_law_one_refused, .func (PySem.W.fnOf "_law_one_refused" "_law_one_refused" (defArgs s_law_one_refused) (defBody s_law_one_refused) (defScope s_law_one_refused) .none kV_law_one_refused dc_law_one_refused pm_law_one_refused an_law_one_refused cd_law_one_refused ct_law_one_refused), sl_law_one_refused⟩)
    (c_law_one_refused : PySem.W.codeIn K cd_law_one_refused "_law_one_refused" = true)
    (k_law_one_refused : PySem.W.keepIn K (.ref f_law_one_refused) = true)
    (a_law_family_right : PySem.W.nsIn K mainGlobals "_law_family_right" = some (some (.ref f_law_family_right)))
    (l_law_family_right : K.lookup f_law_family_right = some ⟨oc_law_family_right, od_law_family_right, .func (PySem.W.fnOf "_law_family_right" "_law_family_right" (defArgs s_law_family_right) (defBody s_law_family_right) (defScope s_law_family_right) .none kV_law_family_right dc_law_family_right pm_law_family_right an_law_family_right cd_law_family_right ct_law_family_right), sl_law_family_right⟩)
    (c_law_family_right : PySem.W.codeIn K cd_law_family_right "_law_family_right" = true)
    (k_law_family_right : PySem.W.keepIn K (.ref f_law_family_right) = true)
    (a_law : PySem.W.nsIn K mainGlobals "law" = some (some (.ref f_law)))
    (l_law : K.lookup f_law = some ⟨oc_law, od_law, .func (PySem.W.fnOf "law" "law" (defArgs s_law) (defBody s_law) (defScope s_law) .none kV_law dc_law pm_law an_law cd_law ct_law), sl_law⟩)
    (c_law : PySem.W.codeIn K cd_law "law" = true)
    (k_law : PySem.W.keepIn K (.ref f_law) = true)
    (pg_Family : PySem.W.plainGet K C_Family Str.empty = true)
    (hd_Family : PySem.W.hasDictIn K C_Family = true)
    (po_Family : PySem.W.plainOver K C_Family = true)
    (sa_Family : PySem.W.findIn K (.ref C_Family) "__setattr__" = some (some (.builtin "object.__setattr__")))
    (mk_Family : PySem.W.makesIn K C_Family = true)
    (kc_Family : PySem.W.keepIn K (.ref C_Family) = true)
    (rd_Family : PySem.W.readsIn K C_Family (.type "type") = true)
    (ga_Family : PySem.W.specialIn K (.ref C_Family) "__getattribute__" = some (some (.builtin "type.__getattribute__")))
    (mo_Family : PySem.W.mroIn K C_Family (.type "object") = some true)
    (hc_Family : PySem.W.findIn K (.ref C_Family) "__class__" = some (some (.builtin "object.__class__")))
    (ic_Family : PySem.W.isClsIn K C_Family = true)
    (ty_Family : PySem.W.typeIn K (.ref C_Family) = some (.type "type"))
    (ne_Family : PySem.W.findIn K (.ref C_Family) "__ne__" = some (some (.builtin "object.__ne__")))
    (a_Family_LICENCES : PySem.W.findCls K (.ref C_Family) (.type "type") "LICENCES" = some (.val (.ref ad_Family_LICENCES)))
    (lk_Family_LICENCES : K.lookup ad_Family_LICENCES = some ⟨.type "tuple", od_Family_LICENCES, .seq #[.str "needs" t0_Family_LICENCES, .str "takes" t1_Family_LICENCES, .str "fixes" t2_Family_LICENCES, .str "ties" t3_Family_LICENCES, .str "keeps" t4_Family_LICENCES, .str "named" t5_Family_LICENCES, .str "call" t6_Family_LICENCES, .str "names" t7_Family_LICENCES, .str "renew" t8_Family_LICENCES, .str "copy" t9_Family_LICENCES] n_Family_LICENCES, sl_Family_LICENCES⟩)
    (no_Family_words : PySem.W.findIn K (.ref C_Family) "words" = some none)
    (pg_World : PySem.W.plainGet K C_World Str.empty = true)
    (hd_World : PySem.W.hasDictIn K C_World = true)
    (po_World : PySem.W.plainOver K C_World = true)
    (sa_World : PySem.W.findIn K (.ref C_World) "__setattr__" = some (some (.builtin "object.__setattr__")))
    (mk_World : PySem.W.makesIn K C_World = true)
    (kc_World : PySem.W.keepIn K (.ref C_World) = true)
    (rd_World : PySem.W.readsIn K C_World (.type "type") = true)
    (ga_World : PySem.W.specialIn K (.ref C_World) "__getattribute__" = some (some (.builtin "type.__getattribute__")))
    (mo_World : PySem.W.mroIn K C_World (.type "object") = some true)
    (hc_World : PySem.W.findIn K (.ref C_World) "__class__" = some (some (.builtin "object.__class__")))
    (ic_World : PySem.W.isClsIn K C_World = true)
    (ty_World : PySem.W.typeIn K (.ref C_World) = some (.type "type"))
    (ty_BadFamily : PySem.W.typeIn K (.ref C_BadFamily) = some (.type "type"))
    (ic_BadFamily : PySem.W.isClsIn K C_BadFamily = true)
    (sb_BadFamily : PySem.W.subIn K (.ref C_BadFamily) (.type "BaseException") = some true)
    (lk_BadFamily : K.lookup C_BadFamily = some (excClassObj nm_BadFamily q_BadFamily C_BadFamily N_BadFamily bs_BadFamily bm_BadFamily true sn_BadFamily sub_BadFamily ab_BadFamily col_BadFamily dd_BadFamily k0_BadFamily k1_BadFamily k2_BadFamily k3_BadFamily k5_BadFamily "ValueError.__new__"))
    (rv_BadFamily : PySem.HandSPX.refsVE bm_BadFamily = true)
    (sa_BadFamily : PySem.W.findIn K (.ref C_BadFamily) "__setattr__" = some (some (.builtin "object.__setattr__")))
    (kc_BadFamily : PySem.W.keepIn K (.ref C_BadFamily) = true)
    (xt_BadFamily : PySem.W.typeIn K (.ref f_BadFamily_init) = some (.type "function"))
    (no_BadFamily_word : PySem.W.findIn K (.ref C_BadFamily) "word" = some none)
    (ga_BadFamily : PySem.W.findIn K (.ref C_BadFamily) "__getattribute__" = some (some (.builtin "BaseException.__getattribute__")))
    (gg_BadFamily : PySem.W.findIn K (.ref C_BadFamily) "__getattr__" = some none)
    (hd_BadFamily : PySem.W.hasDictIn K C_BadFamily = true)
    (hc_BadFamily : PySem.W.findIn K (.ref C_BadFamily) "__class__" = some (some (.builtin "object.__class__")))
    (mo_BadFamily : PySem.W.mroIn K C_BadFamily (.type "object") = some true)
    (ty_HeirsbackError : PySem.W.typeIn K (.ref C_HeirsbackError) = some (.type "type"))
    (ic_HeirsbackError : PySem.W.isClsIn K C_HeirsbackError = true)
    (sb_HeirsbackError : PySem.W.subIn K (.ref C_HeirsbackError) (.type "BaseException") = some true)
    (hnC : PySem.W.specialIn K (.builtin "object.__class__") "__get__" = some (some (.builtin "getset_descriptor.__get__")))
    (htC : PySem.W.takesIn K (.builtin "object.__class__") = some true)
    (su_bf : PySem.W.subIn K (.ref C_BadFamily) (.ref C_BadFamily) = some true)
    (su_hb : PySem.W.subIn K (.ref C_BadFamily) (.ref C_HeirsbackError) = some true)
    (su_ve : PySem.W.subIn K (.ref C_BadFamily) (.type "ValueError") = some true)
    (xhd_hb : PySem.W.hasDictIn K C_HeirsbackError = true)
    (n_ValueError : PySem.W.nsIn K mainGlobals "ValueError" = some none)
    (n_abs : PySem.W.nsIn K mainGlobals "abs" = some none)
    (n_bool : PySem.W.nsIn K mainGlobals "bool" = some none)
    (n_enumerate : PySem.W.nsIn K mainGlobals "enumerate" = some none)
    (n_int : PySem.W.nsIn K mainGlobals "int" = some none)
    (n_isinstance : PySem.W.nsIn K mainGlobals "isinstance" = some none)
    (n_len : PySem.W.nsIn K mainGlobals "len" = some none)
    (n_list : PySem.W.nsIn K mainGlobals "list" = some none)
    (n_max : PySem.W.nsIn K mainGlobals "max" = some none)
    (n_min : PySem.W.nsIn K mainGlobals "min" = some none)
    (n_range : PySem.W.nsIn K mainGlobals "range" = some none)
    (n_repr : PySem.W.nsIn K mainGlobals "repr" = some none)
    (n_tuple : PySem.W.nsIn K mainGlobals "tuple" = some none) :
    ∃ fd : FuncData, (∀ (s : Shared) (v : Value), BindsTo s fd ⟨[v], []⟩ [("_law_script", v)]) ∧ ∀ base : Heap, K.In base → base.Ns mainGlobals mg → FnOk l.prog w K mg base CX0 7 fa fd ["_law_script"] (sp_law K) := by
  have e := hfa.symm.trans (PySem.W.mg_of X G a_law)
  cases e
  have T : Txt K mg ⟨f_BadFamily_init, (PySem.W.fnOf "__init__" "BadFamily.__init__" (defArgs s_BadFamily_init) (defBody s_BadFamily_init) (defScope s_BadFamily_init) .none kV_BadFamily_init dc_BadFamily_init pm_BadFamily_init an_BadFamily_init cd_BadFamily_init ct_BadFamily_init), f_Family_init, (PySem.W.fnOf "__init__" "Family.__init__" (defArgs s_Family_init) (defBody s_Family_init) (defScope s_Family_init) .none kV_Family_init dc_Family_init pm_Family_init an_Family_init cd_Family_init ct_Family_init), f_Family_of, (PySem.W.fnOf "of" "Family.of" (defArgs s_Family_of) (defBody s_Family_of) (defScope s_Family_of) .none kV_Family_of dc_Family_of pm_Family_of an_Family_of cd_Family_of ct_Family_of), p_Family_of, f_Family_contains, (PySem.W.fnOf "__contains__" "Family.__contains__" (defArgs s_Family_contains) (defBody s_Family_contains) (defScope s_Family_contains) .none kV_Family_contains dc_Family_contains pm_Family_contains an_Family_contains cd_Family_contains ct_Family_contains), f_Family_len, (PySem.W.fnOf "__len__" "Family.__len__" (defArgs s_Family_len) (defBody s_Family_len) (defScope s_Family_len) .none kV_Family_len dc_Family_len pm_Family_len an_Family_len cd_Family_len ct_Family_len), f_Family_bool, (PySem.W.fnOf "__bool__" "Family.__bool__" (defArgs s_Family_bool) (defBody s_Family_bool) (defScope s_Family_bool) .none kV_Family_bool dc_Family_bool pm_Family_bool an_Family_bool cd_Family_bool ct_Family_bool), f_Family_eq, (PySem.W.fnOf "__eq__" "Family.__eq__" (defArgs s_Family_eq) (defBody s_Family_eq) (defScope s_Family_eq) .none kV_Family_eq dc_Family_eq pm_Family_eq an_Family_eq cd_Family_eq ct_Family_eq), f_Family_repr, (PySem.W.fnOf "__repr__" "Family.__repr__" (defArgs s_Family_repr) (defBody s_Family_repr) (defScope s_Family_repr) .none kV_Family_repr dc_Family_repr pm_Family_repr an_Family_repr cd_Family_repr ct_Family_repr), f_law_bag, (PySem.W.fnOf "_law_bag" "_law_bag" (defArgs s_law_bag) (defBody s_law_bag) (defScope s_law_bag) .none kV_law_bag dc_law_bag pm_law_bag an_law_bag cd_law_bag ct_law_bag), f_law_take, (PySem.W.fnOf "_law_take" "_law_take" (defArgs s_law_take) (defBody s_law_take) (defScope s_law_take) .none kV_law_take dc_law_take pm_law_take an_law_take cd_law_take ct_law_take), f_law_of, (PySem.W.fnOf "_law_of" "_law_of" (defArgs s_law_of) (defBody s_law_of) (defScope s_law_of) .none kV_law_of dc_law_of pm_law_of an_law_of cd_law_of ct_law_of), f_law_licences, (PySem.W.fnOf "_law_licences" "_law_licences" (defArgs s_law_licences) (defBody s_law_licences) (defScope s_law_licences) .none kV_law_licences dc_law_licences pm_law_licences an_law_licences cd_law_licences ct_law_licences), f_law_some, (PySem.W.fnOf "_law_some" "_law_some" (defArgs s_law_some) (defBody s_law_some) (defScope s_law_some) .none kV_law_some dc_law_some pm_law_some an_law_some cd_law_some ct_law_some), f_law_sorted, (PySem.W.fnOf "_law_sorted" "_law_sorted" (defArgs s_law_sorted) (defBody s_law_sorted) (defScope s_law_sorted) .none kV_law_sorted dc_law_sorted pm_law_sorted an_law_sorted cd_law_sorted ct_law_sorted), f_law_refused, (PySem.W.fnOf "_law_refused" "_law_refused" (defArgs s_law_refused) (defBody s_law_refused) (defScope s_law_refused) .none kV_law_refused dc_law_refused pm_law_refused an_law_refused cd_law_refused ct_law_refused), f_law_one_refused, (PySem.W.fnOf "_law_one_refused" "_law_one_refused" (defArgs s_law_one_refused) (defBody s_law_one_refused) (defScope s_law_one_refused) .none kV_law_one_refused dc_law_one_refused pm_law_one_refused an_law_one_refused cd_law_one_refused ct_law_one_refused), f_law_family_right, (PySem.W.fnOf "_law_family_right" "_law_family_right" (defArgs s_law_family_right) (defBody s_law_family_right) (defScope s_law_family_right) .none kV_law_family_right dc_law_family_right pm_law_family_right an_law_family_right cd_law_family_right ct_law_family_right), fa, (PySem.W.fnOf "law" "law" (defArgs s_law) (defBody s_law) (defScope s_law) .none kV_law dc_law pm_law an_law cd_law ct_law), C_Family, ad_Family_LICENCES, C_World, C_BadFamily, C_HeirsbackError⟩ := {
    F_BadFamily_init := fun_mk (st := s_BadFamily_init) l_BadFamily_init c_BadFamily_init k_BadFamily_init,
    b_BadFamily_init := (fun_mk (st := s_BadFamily_init) l_BadFamily_init c_BadFamily_init k_BadFamily_init).binds (ps := ["self", "word"]) fun _ _ _ _ _ _ us hl => match us, hl with | [_, _], _ => rfl,
    m_BadFamily_init := ⟨a_BadFamily_init, i_BadFamily_init, k_BadFamily_init⟩,
    F_Family_init := fun_mk (st := s_Family_init) l_Family_init c_Family_init k_Family_init,
    b_Family_init := (fun_mk (st := s_Family_init) l_Family_init c_Family_init k_Family_init).binds (ps := ["self", "words"]) fun _ _ _ _ _ _ us hl => match us, hl with | [_, _], _ => rfl,
    m_Family_init := ⟨a_Family_init, i_Family_init, k_Family_init⟩,
    F_Family_of := fun_mk (st := s_Family_of) l_Family_of c_Family_of k_Family_of,
    cm_Family_of := ⟨a_Family_of, ⟨_, rc_Family_of⟩, fi_Family_of⟩,
    F_Family_contains := fun_mk (st := s_Family_contains) l_Family_contains c_Family_contains k_Family_contains,
    b_Family_contains := (fun_mk (st := s_Family_contains) l_Family_contains c_Family_contains k_Family_contains).binds (ps := ["self", "x"]) fun _ _ _ _ _ _ us hl => match us, hl with | [_, _], _ => rfl,
    m_Family_contains := ⟨a_Family_contains, i_Family_contains, k_Family_contains⟩,
    F_Family_len := fun_mk (st := s_Family_len) l_Family_len c_Family_len k_Family_len,
    b_Family_len := (fun_mk (st := s_Family_len) l_Family_len c_Family_len k_Family_len).binds (ps := ["self"]) fun _ _ _ _ _ _ us hl => match us, hl with | [_], _ => rfl,
    m_Family_len := ⟨a_Family_len, i_Family_len, k_Family_len⟩,
    F_Family_bool := fun_mk (st := s_Family_bool) l_Family_bool c_Family_bool k_Family_bool,
    b_Family_bool := (fun_mk (st := s_Family_bool) l_Family_bool c_Family_bool k_Family_bool).binds (ps := ["self"]) fun _ _ _ _ _ _ us hl => match us, hl with | [_], _ => rfl,
    m_Family_bool := ⟨a_Family_bool, i_Family_bool, k_Family_bool⟩,
    F_Family_eq := fun_mk (st := s_Family_eq) l_Family_eq c_Family_eq k_Family_eq,
    b_Family_eq := (fun_mk (st := s_Family_eq) l_Family_eq c_Family_eq k_Family_eq).binds (ps := ["self", "other"]) fun _ _ _ _ _ _ us hl => match us, hl with | [_, _], _ => rfl,
    m_Family_eq := ⟨a_Family_eq, i_Family_eq, k_Family_eq⟩,
    F_Family_repr := fun_mk (st := s_Family_repr) l_Family_repr c_Family_repr k_Family_repr,
    b_Family_repr := (fun_mk (st := s_Family_repr) l_Family_repr c_Family_repr k_Family_repr).binds (ps := ["self"]) fun _ _ _ _ _ _ us hl => match us, hl with | [_], _ => rfl,
    m_Family_repr := ⟨a_Family_repr, i_Family_repr, k_Family_repr⟩,
    F_law_bag := fun_mk (st := s_law_bag) l_law_bag c_law_bag k_law_bag,
    b_law_bag := (fun_mk (st := s_law_bag) l_law_bag c_law_bag k_law_bag).binds (ps := ["_law_script", "_law_at"]) fun _ _ _ _ _ _ us hl => match us, hl with | [_, _], _ => rfl,
    g_law_bag := PySem.W.mg_of X G a_law_bag,
    F_law_take := fun_mk (st := s_law_take) l_law_take c_law_take k_law_take,
    b_law_take := (fun_mk (st := s_law_take) l_law_take c_law_take k_law_take).binds (ps := ["_law_bag_here", "_law_many"]) fun _ _ _ _ _ _ us hl => match us, hl with | [_, _], _ => rfl,
    g_law_take := PySem.W.mg_of X G a_law_take,
    F_law_of := fun_mk (st := s_law_of) l_law_of c_law_of k_law_of,
    b_law_of := (fun_mk (st := s_law_of) l_law_of c_law_of k_law_of).binds (ps := ["_law_bag_here", "_law_some_here"]) fun _ _ _ _ _ _ us hl => match us, hl with | [_, _], _ => rfl,
    g_law_of := PySem.W.mg_of X G a_law_of,
    F_law_licences := fun_mk (st := s_law_licences) l_law_licences c_law_licences k_law_licences,
    b_law_licences := (fun_mk (st := s_law_licences) l_law_licences c_law_licences k_law_licences).binds (ps := []) fun _ _ _ _ _ _ us hl => match us, hl with | [], _ => rfl,
    g_law_licences := PySem.W.mg_of X G a_law_licences,
    F_law_some := fun_mk (st := s_law_some) l_law_some c_law_some k_law_some,
    b_law_some := (fun_mk (st := s_law_some) l_law_some c_law_some k_law_some).binds (ps := ["_law_bag_here"]) fun _ _ _ _ _ _ us hl => match us, hl with | [_], _ => rfl,
    g_law_some := PySem.W.mg_of X G a_law_some,
    F_law_sorted := fun_mk (st := s_law_sorted) l_law_sorted c_law_sorted k_law_sorted,
    b_law_sorted := (fun_mk (st := s_law_sorted) l_law_sorted c_law_sorted k_law_sorted).binds (ps := ["_law_words"]) fun _ _ _ _ _ _ us hl => match us, hl with | [_], _ => rfl,
    g_law_sorted := PySem.W.mg_of X G a_law_sorted,
    F_law_refused := fun_mk (st := s_law_refused) l_law_refused c_law_refused k_law_refused,
    b_law_refused := (fun_mk (st := s_law_refused) l_law_refused c_law_refused k_law_refused).binds (ps := ["_law_words"]) fun _ _ _ _ _ _ us hl => match us, hl with | [_], _ => rfl,
    g_law_refused := PySem.W.mg_of X G a_law_refused,
    F_law_one_refused := fun_mk (st := s_law_one_refused) l_law_one_refused c_law_one_refused k_law_one_refused,
    b_law_one_refused := (fun_mk (st := s_law_one_refused) l_law_one_refused c_law_one_refused k_law_one_refused).binds (ps := ["_law_one", "_law_other"]) fun _ _ _ _ _ _ us hl => match us, hl with | [_, _], _ => rfl,
    g_law_one_refused := PySem.W.mg_of X G a_law_one_refused,
    F_law_family_right := fun_mk (st := s_law_family_right) l_law_family_right c_law_family_right k_law_family_right,
    b_law_family_right := (fun_mk (st := s_law_family_right) l_law_family_right c_law_family_right k_law_family_right).binds (ps := ["_law_family", "_law_words"]) fun _ _ _ _ _ _ us hl => match us, hl with | [_, _], _ => rfl,
    g_law_family_right := PySem.W.mg_of X G a_law_family_right,
    F_law := fun_mk (st := s_law) l_law c_law k_law,
    b_law := (fun_mk (st := s_law) l_law c_law k_law).binds (ps := ["_law_script"]) fun _ _ _ _ _ _ us hl => match us, hl with | [_], _ => rfl,
    g_law := PySem.W.mg_of X G a_law,
    g_Family := PySem.W.mg_of X G a_C_Family,
    cl_Family := ⟨pg_Family, hd_Family, po_Family, sa_Family⟩,
    ty_Family := ⟨⟨pg_Family, hd_Family, po_Family, sa_Family⟩, hc_Family, hnC, htC, mo_Family, ic_Family, ty_Family⟩,
    cr_Family := ⟨rd_Family, ga_Family⟩,
    mk_Family := ⟨mk_Family, a_Family_init, i_Family_init, kc_Family⟩,
    ne_Family := ⟨ne_Family, mo_Family⟩,
    cv_Family_LICENCES := ⟨a_Family_LICENCES, rfl⟩,
    q_Family_LICENCES := fun _ => .inr ⟨_, _, _, lk_Family_LICENCES, rfl, rfl, (by show 10 ≤ sizeLine; decide), .cons ⟨_, rfl⟩ (.cons ⟨_, rfl⟩ (.cons ⟨_, rfl⟩ (.cons ⟨_, rfl⟩ (.cons ⟨_, rfl⟩ (.cons ⟨_, rfl⟩ (.cons ⟨_, rfl⟩ (.cons ⟨_, rfl⟩ (.cons ⟨_, rfl⟩ (.cons ⟨_, rfl⟩ (.nil))))))))))⟩,
    no_Family_words := no_Family_words,
    g_World := PySem.W.mg_of X G a_C_World,
    cl_World := ⟨pg_World, hd_World, po_World, sa_World⟩,
    ty_World := ⟨⟨pg_World, hd_World, po_World, sa_World⟩, hc_World, hnC, htC, mo_World, ic_World, ty_World⟩,
    cr_World := ⟨rd_World, ga_World⟩,
    g_BadFamily := PySem.W.mg_of X G a_C_BadFamily,
    ty_BadFamily := ty_BadFamily,
    ic_BadFamily := ic_BadFamily,
    sb_BadFamily := sb_BadFamily,
    xf_BadFamily := ⟨ga_BadFamily, gg_BadFamily, sb_BadFamily, hd_BadFamily⟩,
    xc_BadFamily := ⟨ga_BadFamily, gg_BadFamily, sb_BadFamily, hd_BadFamily, hc_BadFamily, hnC, htC, mo_BadFamily⟩,
    ox_BadFamily := ⟨⟨_, _, _, _, _, _, _, _, _, _, _, _, _, _, _, lk_BadFamily, rv_BadFamily⟩, sa_BadFamily, sb_BadFamily, ty_BadFamily, kc_BadFamily⟩,
    xt_BadFamily := xt_BadFamily,
    no_BadFamily_word := no_BadFamily_word,
    g_HeirsbackError := PySem.W.mg_of X G a_C_HeirsbackError,
    ty_HeirsbackError := ty_HeirsbackError,
    ic_HeirsbackError := ic_HeirsbackError,
    sb_HeirsbackError := sb_HeirsbackError,
    su_bf := su_bf,
    su_hb := su_hb,
    su_ve := su_ve,
    xhd_hb := xhd_hb,
    n_ValueError := PySem.W.mg_none_of X G n_ValueError,
    n_abs := PySem.W.mg_none_of X G n_abs,
    n_bool := PySem.W.mg_none_of X G n_bool,
    n_enumerate := PySem.W.mg_none_of X G n_enumerate,
    n_int := PySem.W.mg_none_of X G n_int,
    n_isinstance := PySem.W.mg_none_of X G n_isinstance,
    n_len := PySem.W.mg_none_of X G n_len,
    n_list := PySem.W.mg_none_of X G n_list,
    n_max := PySem.W.mg_none_of X G n_max,
    n_min := PySem.W.mg_none_of X G n_min,
    n_range := PySem.W.mg_none_of X G n_range,
    n_repr := PySem.W.mg_none_of X G n_repr,
    n_tuple := PySem.W.mg_none_of X G n_tuple }
  exact ⟨_, fun s v => .of_eq rfl, fun base _ _ => ok_law T⟩
theorem walk {l : PySem.W.OpenLaw} {q : Program} {loose : List Str} {XP : (Str → Option Value) → Heap → Prop} {YP : World → Heap → Prop} {d : DefRec} {K : Params → PySem.W.Frag} (hn : l.most = some 63) (hdf : d.params.defaults = [])
    (hY : ∀ (w : World) (h : Heap), YP w h → (K w.params).In h)
    (F : ∀ (w : World) (mg : Str → Option Value) (fa : Addr) (h : Heap), (K w.params).In h → h.Ns mainGlobals mg → mg d.name = some (.ref fa) →
      ∃ fd : FuncData, (∀ (s : Shared) (u : Value), BindsTo s fd ⟨[u], []⟩ [("_law_script", u)]) ∧ ∀ base : Heap, (K w.params).In base → base.Ns mainGlobals mg → FnOk l.prog w (K w.params) mg base CX0 7 fa fd ["_law_script"] (sp_law (K w.params))) :
    PySem.W.WalkO q loose XP YP l.row.toRowW d [] (fun f vs => PySem.call f vs) :=
  L2.walk_ofB (n := 63) (k := 7) (x := "_law_script") (CX := fun _ => CX0) (sp := fun w => sp_law (K w.params)) hn (by decide) hdf ⟨rfl, by decide, by decide⟩ hY F (fun _ _ a ns hl hb _ hS => ⟨a, ns, rfl, hS, hl, fun _ => rfl⟩) fun _ _ _ _ _ z => z
end Ex
open PySem PySem.W PyProof.Rows
set_option maxRecDepth 100000 in
set_option maxHeartbeats 0 in
theorem PySem.Challenge.cw_heirsback_k86_families_made_holds : PySem.Challenge.rw_heirsback_k86_families_made.Holds := by
  refine hd ?_
  k_fill
  refine Ex.walk (l := PySem.Challenge.rw_heirsback_k86_families_made) rfl rfl (fun w h Y => PySem.W.kIn_of Y) ?F
  case F =>
    intro w mg fa h KX G hmg
    have hmg : mg "law" = some (.ref fa) := hmg
    refine' Ex.all_mk KX G hmg ?a_C_Family ?a_C_World ?a_C_BadFamily ?a_C_HeirsbackError ?a_BadFamily_init ?i_BadFamily_init ?l_BadFamily_init ?c_BadFamily_init ?k_BadFamily_init ?a_Family_init ?i_Family_init ?l_Family_init ?c_Family_init ?k_Family_init ?a_Family_of ?rc_Family_of ?fi_Family_of ?l_Family_of ?c_Family_of ?k_Family_of ?a_Family_contains ?i_Family_contains ?l_Family_contains ?c_Family_contains ?k_Family_contains ?a_Family_len ?i_Family_len ?l_Family_len ?c_Family_len ?k_Family_len ?a_Family_bool ?i_Family_bool ?l_Family_bool ?c_Family_bool ?k_Family_bool ?a_Family_eq ?i_Family_eq ?l_Family_eq ?c_Family_eq ?k_Family_eq ?a_Family_repr ?i_Family_repr ?l_Family_repr ?c_Family_repr ?k_Family_repr ?a_law_bag ?l_law_bag ?c_law_bag ?k_law_bag ?a_law_take ?l_law_take ?c_law_take ?k_law_take ?a_law_of ?l_law_of ?c_law_of ?k_law_of ?a_law_licences ?l_law_licences ?c_law_licences ?k_law_licences ?a_law_some ?l_law_some ?c_law_some ?k_law_some ?a_law_sorted ?l_law_sorted ?c_law_sorted ?k_law_sorted ?a_law_refused ?l_law_refused ?c_law_refused ?k_law_refused ?a_law_one_refused ?l_law_one_refused ?c_law_one_refused ?k_law_one_refused ?a_law_family_right ?l_law_family_right ?c_law_family_right ?k_law_family_right ?a_law ?l_law ?c_law ?k_law ?pg_Family ?hd_Family ?po_Family ?sa_Family ?mk_Family ?kc_Family ?rd_Family ?ga_Family ?mo_Family ?hc_Family ?ic_Family ?ty_Family ?ne_Family ?a_Family_LICENCES ?lk_Family_LICENCES ?no_Family_words ?pg_World ?hd_World ?po_World ?sa_World ?mk_World ?kc_World ?rd_World ?ga_World ?mo_World ?hc_World ?ic_World ?ty_World ?ty_BadFamily ?ic_BadFamily ?sb_BadFamily ?lk_BadFamily ?rv_BadFamily ?sa_BadFamily ?kc_BadFamily ?xt_BadFamily ?no_BadFamily_word ?ga_BadFamily ?gg_BadFamily ?hd_BadFamily ?hc_BadFamily ?mo_BadFamily ?ty_HeirsbackError ?ic_HeirsbackError ?sb_HeirsbackError ?hnC ?htC ?su_bf ?su_hb ?su_ve ?xhd_hb ?n_ValueError ?n_abs ?n_bool ?n_enumerate ?n_int ?n_isinstance ?n_len ?n_list ?n_max ?n_min ?n_range ?n_repr ?n_tuple
    (case a_C_Family => k_is)
    (case a_C_World => k_is)
    (case a_C_BadFamily => k_is)
    (case a_C_HeirsbackError => k_is)
    (case a_BadFamily_init => k_is)
    (case i_BadFamily_init => k_is)
    (case l_BadFamily_init => k_is)
    (case c_BadFamily_init => k_is)
    (case k_BadFamily_init => k_is)
    (case a_Family_init => k_is)
    (case i_Family_init => k_is)
    (case l_Family_init => k_is)
    (case c_Family_init => k_is)
    (case k_Family_init => k_is)
    (case a_Family_of => k_is)
    (case rc_Family_of => k_is)
    (case fi_Family_of => k_is)
    (case l_Family_of => k_is)
    (case c_Family_of => k_is)
    (case k_Family_of => k_is)
    (case a_Family_contains => k_is)
    (case i_Family_contains => k_is)
    (case l_Family_contains => k_is)
    (case c_Family_contains => k_is)
    (case k_Family_contains => k_is)
    (case a_Family_len => k_is)
    (case i_Family_len => k_is)
    (case l_Family_len => k_is)
    (case c_Family_len => k_is)
    (case k_Family_len => k_is)
    (case a_Family_bool => k_is)
    (case i_Family_bool => k_is)
    (case l_Family_bool => k_is)
    (case c_Family_bool => k_is)
    (case k_Family_bool => k_is)
    (case a_Family_eq => k_is)
    (case i_Family_eq => k_is)
    (case l_Family_eq => k_is)
    (case c_Family_eq => k_is)
    (case k_Family_eq => k_is)
    (case a_Family_repr => k_is)
    (case i_Family_repr => k_is)
    (case l_Family_repr => k_is)
    (case c_Family_repr => k_is)
    (case k_Family_repr => k_is)
    (case a_law_bag => k_is)
    (case l_law_bag => k_is)
    (case c_law_bag => k_is)
    (case k_law_bag => k_is)
    (case a_law_take => k_is)
    (case l_law_take => k_is)
    (case c_law_take => k_is)
    (case k_law_take => k_is)
    (case a_law_of => k_is)
    (case l_law_of => k_is)
    (case c_law_of => k_is)
    (case k_law_of => k_is)
    (case a_law_licences => k_is)
    (case l_law_licences => k_is)
    (case c_law_licences => k_is)
    (case k_law_licences => k_is)
    (case a_law_some => k_is)
    (case l_law_some => k_is)
    (case c_law_some => k_is)
    (case k_law_some => k_is)
    (case a_law_sorted => k_is)
    (case l_law_sorted => k_is)
    (case c_law_sorted => k_is)
    (case k_law_sorted => k_is)
    (case a_law_refused => k_is)
    (case l_law_refused => k_is)
    (case c_law_refused => k_is)
    (case k_law_refused => k_is)
    (case a_law_one_refused => k_is)
    (case l_law_one_refused => k_is)
    (case c_law_one_refused => k_is)
    (case k_law_one_refused => k_is)
    (case a_law_family_right => k_is)
    (case l_law_family_right => k_is)
    (case c_law_family_right => k_is)
    (case k_law_family_right => k_is)
    (case a_law => k_is)
    (case l_law => k_is)
    (case c_law => k_is)
    (case k_law => k_is)
    (case pg_Family => k_is)
    (case hd_Family => k_is)
    (case po_Family => k_is)
    (case sa_Family => k_is)
    (case mk_Family => k_is)
    (case kc_Family => k_is)
    (case rd_Family => k_is)
    (case ga_Family => k_is)
    (case mo_Family => k_is)
    (case hc_Family => k_is)
    (case ic_Family => k_is)
    (case ty_Family => k_is)
    (case ne_Family => k_is)
    (case a_Family_LICENCES => k_is)
    (case lk_Family_LICENCES => k_is)
    (case no_Family_words => k_is)
    (case pg_World => k_is)
    (case hd_World => k_is)
    (case po_World => k_is)
    (case sa_World => k_is)
    (case mk_World => k_is)
    (case kc_World => k_is)
    (case rd_World => k_is)
    (case ga_World => k_is)
    (case mo_World => k_is)
    (case hc_World => k_is)
    (case ic_World => k_is)
    (case ty_World => k_is)
    (case ty_BadFamily => k_is)
    (case ic_BadFamily => k_is)
    (case sb_BadFamily => k_is)
    (case lk_BadFamily => k_is)
    (case rv_BadFamily => first | rfl | decide +kernel)
    (case sa_BadFamily => k_is)
    (case kc_BadFamily => k_is)
    (case xt_BadFamily => k_is)
    (case no_BadFamily_word => k_is)
    (case ga_BadFamily => k_is)
    (case gg_BadFamily => k_is)
    (case hd_BadFamily => k_is)
    (case hc_BadFamily => k_is)
    (case mo_BadFamily => k_is)
    (case ty_HeirsbackError => k_is)
    (case ic_HeirsbackError => k_is)
    (case sb_HeirsbackError => k_is)
    (case hnC => k_is)
    (case htC => k_is)
    (case su_bf => k_is)
    (case su_hb => k_is)
    (case su_ve => k_is)
    (case xhd_hb => k_is)
    (case n_ValueError => k_is)
    (case n_abs => k_is)
    (case n_bool => k_is)
    (case n_enumerate => k_is)
    (case n_int => k_is)
    (case n_isinstance => k_is)
    (case n_len => k_is)
    (case n_list => k_is)
    (case n_max => k_is)
    (case n_min => k_is)
    (case n_range => k_is)
    (case n_repr => k_is)
    (case n_tuple => k_is)
#print axioms PySem.Challenge.cw_heirsback_k86_families_made_holds

