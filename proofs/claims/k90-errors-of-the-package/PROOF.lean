import PyProof.Rows.All
import Wide.All
import OpenK.AllK
import Wide.FinOn
import HandS.ForMost
import HandS.ForExc
import HandS.FStr
import HandS.Wide
import HandS.Deep
import HandS.OwnEq
import HandS.ClsMeth
import HandS.CallRecv
import HandS.CallLocal
import HandS.IsInst
import HandS.EndBits
import HandS.RaiseMore
import HandS.Evl
import HandS.Style
import HandS.Codes
import HandS.ExcInit
import HandS.ExcField
import HandS.ExcIs
import HandS.ExcOwn
import HandS.Lambda
import KE.KExcIs
import KE.KExcInit
import HandS.DictComp
import HandS.StrSplit
import HandS.MapJoin
import PyProof.ListStr
import PySem.Challenge.RW_heirsback_k90_errors_of_the_package
set_option Elab.async false
set_option linter.all false
set_option maxRecDepth 100000
set_option maxHeartbeats 4000000
/-! Rules beside the hand layer: own special methods by the built-in's name, static methods, classes held in a name. -/
namespace Hk
open PySem PySem.Spec PyProof.Rows L2

/-! ### a def run somewhere below the running body -/
section
variable {X : Cx} {CX : CXT} {n : Nat} {f C : Addr} {fd : FuncData} {ps : List Str} {sp : Sp} {E : XK} {pins : List (Addr × Obj)} {σ : L2.St} {H : Hp} {s : Shared}
theorem run_sub {A : Around} {Q : VK} {us : List Value} {vs : List V} (sb : Sub X n A) (F : FnOk X.prog X.w X.K X.mg X.base CX n f fd ps sp) (hb : Binds X.K fd ps []) (hx : Passes CX X E)
    (I : Inv X pins σ H s) (r : Vals vs us) (h : sp vs H Q E) : wpAny (model X.prog X.w) A (call (.ref f) us) (EP X pins σ Q) X.xe s := by
  have hl : us.length = ps.length := by rw [← r.length]; exact F.len _ _ _ _ h
  have e0 : Env0 X.prog X.w X.K X.mg X.base A X.stack s H := by
    have e := I.env0
    exact ⟨by rw [sb.fr]; exact e.frames, e.mod, e.bs, e.bsz, e.funs, e.frf, e.hok, e.bare⟩
  refine wpAny_call (codeAny_mono (F.run A X.stack s H ⟨us, []⟩ us vs Q E sb.room e0 (by
    have := hb s us I.kIn (by simpa using hl)
    simpa using this) r h) fun r s' hq => ?_)
  cases r with
  | error e => exact hx pins σ H s e s' I hq
  | ok fl =>
    cases fl with
    | ret u => exact I.after hq
    | next => exact False.elim hq
    | brk => exact False.elim hq
    | cont => exact False.elim hq
end

/-- the class at C has the def at f for this name, which keeps sp -/
structure Own (X : Cx) (C : Addr) (name : Str) (n : Nat) (sp : Sp) (E : XK) : Prop where
  ex : ∃ (f : Addr) (fd : FuncData) (ps : List Str) (CX : CXT), FnOk X.prog X.w X.K X.mg X.base CX n f fd ps sp ∧ PySem.W.findIn X.K (.ref C) name = some (some (.ref f)) ∧ PySem.W.isFn X.K (.ref f) = true ∧ Binds X.K fd ps [] ∧ Passes CX X E

section
variable {X : Cx} {n : Nat} {C : Addr} {sp : Sp} {E : XK}
/-- len(o) by __len__ -/
def rLenO (C : Addr) (sp : Sp) (E : XK) : List V → Hp → VK → Prop := fun xs H Q => ∃ a dx fs, xs = [.ref a] ∧ H a = some (.ins C dx fs) ∧ sp [.ref a] H (fun v H' => ∃ k : Int, v = .int k ∧ (0 ≤ k ∧ k < 2 ^ 63) ∧ Q (.int k) H') E
theorem call_lenO (G : Own X C "__len__" n sp E) (hr : Room (n + 1) X.A) : CallR X (.builtin "len") (rLenO C sp E) := by
  obtain ⟨f, fd, ps, CX, F, hs, hf, hb, hx⟩ := G.ex
  intro pins s σ H xs us Q I r h
  obtain ⟨a, dx, fs, rfl, ha, q⟩ := h
  cases r with
  | cons r1 r2 =>
    cases r2
    cases r1
    obtain ⟨mA, J, _⟩ := ins_get I.hok ha
    obtain ⟨od, J, _⟩ := J.look
    obtain ⟨m, hF⟩ := I.fr
    refine PySem.W.len_K hF I.ok.mod.kin J hs hf ?_
    have sb : Sub X n X.A.in1 := ⟨hr.in1, rfl⟩
    refine thn (run_sub (vs := [V.ref a]) sb F hb hx I (.cons rfl .nil) q) fun u s1 hh => ?_
    obtain ⟨v, H1, I1, rv, k, rfl, hk, q1⟩ := hh
    obtain ⟨t, rfl⟩ := rv
    exact ⟨hk, .int k, H1, I1.tok _, ⟨_, rfl⟩, q1⟩
/-- str(o) by __str__ -/
def rStrO (C : Addr) (sp : Sp) (E : XK) : List V → Hp → VK → Prop := fun xs H Q => ∃ a dx fs, xs = [.ref a] ∧ H a = some (.ins C dx fs) ∧ sp [.ref a] H (fun v H' => ∃ k : Str, v = .str k ∧ Q (.str k) H') E
theorem call_strO (G : Own X C "__str__" n sp E) (hr : Room (n + 2) X.A) : CallR X (.type "str") (rStrO C sp E) := by
  obtain ⟨f, fd, ps, CX, F, hs, hf, hb, hx⟩ := G.ex
  intro pins s σ H xs us Q I r h
  obtain ⟨a, dx, fs, rfl, ha, q⟩ := h
  cases r with
  | cons r1 r2 =>
    cases r2
    cases r1
    obtain ⟨mA, J, _⟩ := ins_get I.hok ha
    obtain ⟨od, J, _⟩ := J.look
    have sb : Sub X n X.A.in1.in1 := ⟨hr.in1.in1, rfl⟩
    refine PySem.W.kso_call sb.room.units0 I.kIn J hs hf ?_
    refine thn (run_sub (vs := [V.ref a]) sb F hb hx I (.cons rfl .nil) q) fun u s1 hh => ?_
    obtain ⟨v, H1, I1, rv, k, rfl, q1⟩ := hh
    obtain ⟨t, rfl⟩ := rv
    exact ⟨.str k, H1, I1, ⟨_, rfl⟩, q1⟩
/-- repr(o) by __repr__ -/
def rReprO (C : Addr) (sp : Sp) (E : XK) : List V → Hp → VK → Prop := rStrO C sp E
theorem call_reprO (G : Own X C "__repr__" n sp E) (hr : Room (n + 1) X.A) : CallR X (.builtin "repr") (rReprO C sp E) := by
  obtain ⟨f, fd, ps, CX, F, hs, hf, hb, hx⟩ := G.ex
  intro pins s σ H xs us Q I r h
  obtain ⟨a, dx, fs, rfl, ha, q⟩ := h
  cases r with
  | cons r1 r2 =>
    cases r2
    cases r1
    obtain ⟨mA, J, _⟩ := ins_get I.hok ha
    obtain ⟨od, J, _⟩ := J.look
    obtain ⟨m, hF⟩ := I.fr
    have sb : Sub X n X.A.in1 := ⟨hr.in1, rfl⟩
    refine PySem.W.repr_K sb.room.units0 hF I.ok.mod.kin J hs hf ?_
    refine thn (run_sub (vs := [V.ref a]) sb F hb hx I (.cons rfl .nil) q) fun u s1 hh => ?_
    obtain ⟨v, H1, I1, rv, k, rfl, q1⟩ := hh
    obtain ⟨t, rfl⟩ := rv
    exact ⟨.str k, H1, I1, ⟨_, rfl⟩, q1⟩
/-- the truth of o by __bool__ -/
def rTruO (C : Addr) (sp : Sp) (E : XK) : V → Hp → (Bool → Hp → Prop) → Prop := fun x H Q => ∃ a dx fs, x = .ref a ∧ H a = some (.ins C dx fs) ∧ sp [.ref a] H (fun v H' => ∃ b : Bool, v = .bl b ∧ Q b H') E
theorem tru_O (G : Own X C "__bool__" n sp E) (hr : Room n X.A) : TruR X (rTruO C sp E) := by
  obtain ⟨f, fd, ps, CX, F, hs, hf, hb, hx⟩ := G.ex
  intro pins s σ H x u Q I r h
  obtain ⟨a, dx, fs, rfl, ha, q⟩ := h
  cases r
  obtain ⟨mA, J, _⟩ := ins_get I.hok ha
  obtain ⟨od, J, _⟩ := J.look
  obtain ⟨m, hF⟩ := I.fr
  have sb : Sub X n X.A := ⟨hr, rfl⟩
  refine PySem.W.truthy_K hF I.ok.mod.kin J hs hf ?_
  refine thn (run_sub (vs := [V.ref a]) sb F hb hx I (.cons rfl .nil) q) fun u s1 hh => ?_
  obtain ⟨v, H1, I1, rv, k, rfl, q1⟩ := hh
  cases rv
  exact ⟨H1, I1, q1⟩

/-! ### == and != by __eq__ -/
/-- the type of the other value: an instance of the class itself, or something that is not below it -/
def OtherTy (X : Cx) (H : Hp) (C : Addr) (y : V) : Prop := (∃ b dx fs, y = .ref b ∧ H b = some (.ins C dx fs)) ∨ ∃ t, TyOf X.K H y t ∧ PySem.W.notFirst X.K C t = true
def rEqO (X : Cx) (C : Addr) (sp : Sp) (E : XK) : R2 := fun x y H Q => ∃ a dx fs, x = .ref a ∧ H a = some (.ins C dx fs) ∧ OtherTy X H C y ∧ sp [.ref a, y] H (fun v H' => ∃ b : Bool, v = .bl b ∧ Q (.bl b) H') E
def rNeO (X : Cx) (C : Addr) (sp : Sp) (E : XK) : R2 := fun x y H Q => ∃ a dx fs, x = .ref a ∧ H a = some (.ins C dx fs) ∧ OtherTy X H C y ∧ sp [.ref a, y] H (fun v H' => ∃ b : Bool, v = .bl b ∧ Q (.bl (!b)) H') E
theorem other_looks {pins : List (Addr × Obj)} {σ : L2.St} {H : Hp} {s : Shared} {y : V} {u : Value} (I : Inv X pins σ H s) (ry : RelV y u) (h : OtherTy X H C y) : ∃ t, PySem.W.Looks (model X.prog X.w) s.heap (typeOf u) t ∧ PySem.W.notFirst X.K C t = true := by
  rcases h with ⟨b, dx, fs, rfl, hb⟩ | ⟨t, ty, hn⟩
  · cases ry
    obtain ⟨mA, J, _⟩ := ins_get I.hok hb
    obtain ⟨od, J, _⟩ := J.look
    exact ⟨.ref C, J.type, by simp [PySem.W.notFirst]⟩
  · refine ⟨t, ?_, hn⟩
    cases ty with
    | non => cases (show u = Value.none from ry); exact .of_pure rfl
    | bl y => cases (show u = Value.bool y from ry); exact .of_pure rfl
    | int i => obtain ⟨t, rfl⟩ := (show ∃ t, u = Value.int i t from ry); exact .of_pure rfl
    | str x => obtain ⟨t, rfl⟩ := (show ∃ t, u = Value.str x t from ry); exact .of_pure rfl
    | flt x => obtain ⟨t, rfl⟩ := (show ∃ t, u = Value.float x t from ry); exact .of_pure rfl
    | lst e =>
      cases ry
      obtain ⟨_, its, n, _, e'⟩ := I.hok _ _ e
      exact (PySem.W.Looks.ld e').andThen .now
    | frz e =>
      cases ry
      obtain ⟨eo, _, its, n, _, e'⟩ := I.hok _ _ e
      exact (PySem.W.Looks.ld e').andThen .now
    | tup e =>
      cases ry
      obtain ⟨_, its, _, e'⟩ := I.hok _ _ e
      obtain ⟨o, ho, hc, _⟩ := e'
      exact hc ▸ (PySem.W.Looks.ld ho).andThen .now
    | dK e =>
      cases ry
      obtain ⟨_, _, vs, _, o, es, ep, ho, hx, _⟩ := I.hok _ _ e
      exact hx.1 ▸ (PySem.W.Looks.ld ho).andThen .now
    | dT e =>
      cases ry
      obtain ⟨_, _, xs, _, o, es, ep, ho, hx, _⟩ := I.hok _ _ e
      exact hx.1 ▸ (PySem.W.Looks.ld ho).andThen .now
    | ins e cl ha hg htk hm =>
      cases ry
      obtain ⟨mA, J, _⟩ := ins_get I.hok e
      obtain ⟨od, J, _⟩ := J.look
      exact J.type
theorem op_eqO (G : Own X C "__eq__" n sp E) (hr : Room n X.A) : OpR X (compareOp .Eq) (rEqO X C sp E) := by
  obtain ⟨f, fd, ps, CX, F, hs, hf, hb, hx⟩ := G.ex
  intro pins s σ H x y v u Q I rx ry h
  obtain ⟨a, dx, fs, rfl, ha, ho, q⟩ := h
  cases rx
  obtain ⟨t, ht, hn⟩ := other_looks I ry ho
  obtain ⟨mA, J, _⟩ := ins_get I.hok ha
  obtain ⟨od, J, _⟩ := J.look
  obtain ⟨m, hF⟩ := I.fr
  have sb : Sub X n X.A := ⟨hr, rfl⟩
  show wpAny (model X.prog X.w) X.A (richCompare .Eq (.ref a) u) (EP X pins σ Q) X.xe s
  refine PySem.W.cmp_K (op := .Eq) sb.room.units0 hF I.ok.mod.kin J ht hn hs hf ?_
  refine thn (run_sub (vs := [V.ref a, y]) sb F hb hx I (.cons rfl (.cons ry .nil)) q) fun w1 s1 hh => ?_
  obtain ⟨z, H1, I1, rv, b, rfl, q1⟩ := hh
  cases rv
  exact ⟨.bl b, H1, I1, rfl, q1⟩

theorem ifBound_B {M : Model} {A : Around} {E : Value → Shared → Prop} {s : Shared} {K : PySem.W.Frag} {x C : Addr} {ox : Obj} {od : Option Obj} {name : Str} {id : String} {args : List Value} {Q : Option Value → Shared → Prop} (X : K.In s.heap) (I : PySem.W.InstAt s.heap x ox C od) (hs : PySem.W.findIn K (.ref C) name = some (some (.builtin id)))
    (hb : ∀ self, bindSpecial (.builtin id) self = pure (.builtin id, [self])) (h : wpAny M A (call (.builtin id) (.ref x :: args)) (fun v => Q (some v)) E s) : wpAny M A (callSpecialIfBound? (.ref x) name args) Q E s := by
  simp only [callSpecialIfBound?, bindSpecialIfBound?]
  refine wpAny_holding (wpAny_bind (wpAny_bind (wpAny_bind (I.type.here ((PySem.W.looks_findIn X hs).here ?_)))))
  refine wpAny_bind (wpAny_askSetting (wpAny_ite ?_))
  have fin : wpAny M A (call (.builtin id) ([.ref x] ++ args) >>= fun v => pure (some v)) Q E s := wpAny_bind (wpAny_mono h (fun v s' h' => wpAny_pure h') fun _ _ h' => h')
  split
  · exact wpAny_bind ((PySem.W.Looks.of_pure (hb _)).here (wpAny_pure (by exact fin)))
  · exact wpAny_tryCatch (wpAny_bind ((PySem.W.Looks.of_pure (hb _)).here (wpAny_pure (by exact fin))))
open Builtin in
theorem ne_K {prog : Program} {w : World} {A : Around} {E : Value → Shared → Prop} {s : Shared} {K : PySem.W.Frag} {x C f : Addr} {ox : Obj} {od : Option Obj} {b tb : Value} {Q : Value → Shared → Prop} (hu : A.units < cLine) (hu1 : A.in1.units < cLine) (X : K.In s.heap) (I : PySem.W.InstAt s.heap x ox C od)
    (hb : PySem.W.Looks (model prog w) s.heap (typeOf b) tb) (hn : PySem.W.notFirst K C tb = true) (hne : PySem.W.findIn K (.ref C) "__ne__" = some (some (.builtin "object.__ne__"))) (hm : PySem.W.mroIn K C (.type "object") = some true)
    (hs : PySem.W.findIn K (.ref C) "__eq__" = some (some (.ref f))) (hf : PySem.W.isFn K (.ref f) = true)
    (h : wpAny (model prog w) A.in1 (call (.ref f) [.ref x, b]) (fun v s' => ∃ r : Bool, v = .bool r ∧ Q (.bool (!r)) s') E s) : wpAny (model prog w) A (richCompare .NotEq (.ref x) b) Q E s := by
  have one : wpAny (model prog w) A (tryCompare (.ref x) "__ne__" b) (fun r s' => ∃ v, r = some v ∧ Q v s') E s := by
    unfold tryCompare
    refine wpAny_bind (ifBound_B X I hne PySem.F.slot_object_ne.bind ?_)
    refine wpAny_call (codeAny_call_builtin PySem.F.slot_object_ne.plain PySem.F.cmpEntry_ne (PySem.W.check_slot (i := "object.__ne__") (owner := "object") (n := "__ne__") (by decide +kernel) (by decide +kernel) (I.type.andThen (PySem.W.looks_mroIn X hm)) (PySem.F.cmpArgs_ne _ _) ?_))
    unfold Builtin.«object.__ne__»
    refine wpAny_bind (m := slotArgs "__ne__" 1 _) (wpAny_pure ?_)
    refine wpAny_bind (m := cRoomFor _ _) (wpAny_cRoomFor hu1 ?_)
    refine wpAny_bind (m := callSpecialIfBound? (.ref x) (Str.ofString "__eq__") _) (PySem.W.ifBound_K X I hs hf (wpAny_mono h (fun r s' hr => ?_) fun _ _ y => y))
    obtain ⟨r, rfl, hq⟩ := hr
    refine wpAny_bind (wpAny_truthy_bool ?_)
    exact wpAny_pure (wpAny_pure ⟨_, rfl, hq⟩)
  unfold richCompare
  simp only [PySem.oneThing_ref]
  refine wpAny_holding (wpAny_bind (wpAny_cRoomFor hu ?_))
  refine wpAny_bind (I.type.here (wpAny_bind (hb.here ?_)))
  split
  · rename_i q
    have e : PySem.W.subIn K tb (.ref C) = some false := by
      rcases Bool.or_eq_true_iff.mp hn with e | e
      · rw [beq_iff_eq.mp e] at q; simp at q
      · exact beq_iff_eq.mp e
    refine wpAny_bind ((PySem.W.looks_subIn X e).here ?_)
    simp only [Bool.false_eq_true, if_false]
    refine wpAny_bind (wpAny_mono one (fun r s' z => ?_) fun _ _ e => e)
    obtain ⟨v, rfl, hq⟩ := z
    exact wpAny_pure hq
  · refine wpAny_bind (wpAny_pure ?_)
    simp only [Bool.false_eq_true, if_false]
    refine wpAny_bind (wpAny_mono one (fun r s' z => ?_) fun _ _ e => e)
    obtain ⟨v, rfl, hq⟩ := z
    exact wpAny_pure hq
/-- what a class with its own __eq__ must have for != -/
structure NeC (K : PySem.W.Frag) (C : Addr) : Prop where
  ne : PySem.W.findIn K (.ref C) "__ne__" = some (some (.builtin "object.__ne__"))
  ob : PySem.W.mroIn K C (.type "object") = some true
theorem op_neO (G : Own X C "__eq__" n sp E) (N : NeC X.K C) (hr : Room (n + 1) X.A) : OpR X (compareOp .NotEq) (rNeO X C sp E) := by
  obtain ⟨f, fd, ps, CX, F, hs, hf, hb, hx⟩ := G.ex
  intro pins s σ H x y v u Q I rx ry h
  obtain ⟨a, dx, fs, rfl, ha, ho, q⟩ := h
  cases rx
  obtain ⟨t, ht, hn⟩ := other_looks I ry ho
  obtain ⟨mA, J, _⟩ := ins_get I.hok ha
  obtain ⟨od, J, _⟩ := J.look
  have sb : Sub X n X.A.in1 := ⟨hr.in1, rfl⟩
  show wpAny (model X.prog X.w) X.A (richCompare .NotEq (.ref a) u) (EP X pins σ Q) X.xe s
  refine ne_K hr.units0 sb.room.units0 I.kIn J ht hn N.ne N.ob hs hf ?_
  refine thn (run_sub (vs := [V.ref a, y]) sb F hb hx I (.cons rfl (.cons ry .nil)) q) fun w1 s1 hh => ?_
  obtain ⟨z, H1, I1, rv, b, rfl, q1⟩ := hh
  cases rv
  exact ⟨b, rfl, .bl (!b), H1, I1, rfl, q1⟩

/-! ### in by __contains__, operators by their own methods -/
def rInO (C : Addr) (sp : Sp) (E : XK) (g : Bool → Bool) : R2 := fun x y H Q => ∃ a dx fs, y = .ref a ∧ H a = some (.ins C dx fs) ∧ sp [.ref a, x] H (fun v H' => ∃ b : Bool, v = .bl b ∧ Q (.bl (g b)) H') E
theorem op_inO (G : Own X C "__contains__" n sp E) (hr : Room n X.A) : OpR X (compareOp .In) (rInO C sp E id) := by
  obtain ⟨f, fd, ps, CX, F, hs, hf, hb, hx⟩ := G.ex
  intro pins s σ H x y v u Q I rx ry h
  obtain ⟨a, dx, fs, rfl, ha, q⟩ := h
  cases ry
  obtain ⟨mA, J, _⟩ := ins_get I.hok ha
  obtain ⟨od, J, _⟩ := J.look
  obtain ⟨m, hF⟩ := I.fr
  have sb : Sub X n X.A := ⟨hr, rfl⟩
  refine PySem.W.in_K hF I.ok.mod.kin J hs hf ?_
  refine thn (run_sub (vs := [V.ref a, x]) sb F hb hx I (.cons rfl (.cons rx .nil)) q) fun w1 s1 hh => ?_
  obtain ⟨z, H1, I1, rv, b, rfl, q1⟩ := hh
  cases rv
  exact wpAny_truthy_bool ⟨.bl b, H1, I1, rfl, q1⟩
theorem op_notInO (G : Own X C "__contains__" n sp E) (hr : Room n X.A) : OpR X (compareOp .NotIn) (rInO C sp E not) := by
  obtain ⟨f, fd, ps, CX, F, hs, hf, hb, hx⟩ := G.ex
  intro pins s σ H x y v u Q I rx ry h
  obtain ⟨a, dx, fs, rfl, ha, q⟩ := h
  cases ry
  obtain ⟨mA, J, _⟩ := ins_get I.hok ha
  obtain ⟨od, J, _⟩ := J.look
  obtain ⟨m, hF⟩ := I.fr
  have sb : Sub X n X.A := ⟨hr, rfl⟩
  refine PySem.W.notIn_K hF I.ok.mod.kin J hs hf ?_
  refine thn (run_sub (vs := [V.ref a, x]) sb F hb hx I (.cons rfl (.cons rx .nil)) q) fun w1 s1 hh => ?_
  obtain ⟨z, H1, I1, rv, b, rfl, q1⟩ := hh
  cases rv
  exact wpAny_truthy_bool ⟨.bl (!b), H1, I1, rfl, q1⟩
/-- a op b, two instances of one class; the answer an object -/
def rBinO (C : Addr) (sp : Sp) (E : XK) : R2 := fun x y H Q => ∃ a dx fs b dy gs, x = .ref a ∧ y = .ref b ∧ H a = some (.ins C dx fs) ∧ H b = some (.ins C dy gs) ∧ sp [.ref a, .ref b] H (fun v H' => ∃ p, v = .ref p ∧ Q (.ref p) H') E
theorem op_binO {op : Operator} (G : Own X C (dunder op.info.snd) n sp E) (hc : PySem.W.selfFirst X.K C = true) (hr : Room n X.A) : OpR X (binaryOp op) (rBinO C sp E) := by
  obtain ⟨f, fd, ps, CX, F, hs, hf, hb, hx⟩ := G.ex
  intro pins s σ H x y v u Q I rx ry h
  obtain ⟨a, dx, fs, b, dy, gs, rfl, rfl, ha, hb', q⟩ := h
  cases rx
  cases ry
  obtain ⟨mA, J, _⟩ := ins_get I.hok ha
  obtain ⟨od, J, _⟩ := J.look
  obtain ⟨mB, J', _⟩ := ins_get I.hok hb'
  obtain ⟨od', J', _⟩ := J'.look
  obtain ⟨m, hF⟩ := I.fr
  have sb : Sub X n X.A := ⟨hr, rfl⟩
  refine PySem.W.binop_K hF I.ok.mod.kin J J'.type hc hs hf ?_
  refine thn (run_sub (vs := [V.ref a, V.ref b]) sb F hb hx I (.cons rfl (.cons rfl .nil)) q) fun w1 s1 hh => ?_
  obtain ⟨z, H1, I1, rv, p, rfl, q1⟩ := hh
  cases rv
  exact ⟨.ref p, H1, I1, rfl, q1⟩
end

/-! ### static methods, read off the class -/
structure SMet (K : PySem.W.Frag) (C : Addr) (mc : Value) (m : Str) (g : Addr) : Prop where
  rd : ClX.CRead K C mc
  at_ : ∃ p o, PySem.W.findCls K (.ref C) mc m = some (.get (.builtin "staticmethod.__get__") (.ref p) o (.ref C)) ∧ ∃ rest, PySem.W.recIn K p "staticmethod" = some (.ref g :: rest)
  kp : PySem.W.keepIn K (.ref g) = true
theorem getmethsm_ok {X : Cx} {pins : List (Addr × Obj)} {σ : L2.St} {H : Hp} {s : Shared} {C g : Addr} {mc : Value} {m : Str} {A : Around} {E : Value → Shared → Prop} {pl : Sem Bool} {Q : Value × List Value → Shared → Prop} (I : Inv X pins σ H s) (k : SMet X.K C mc m g)
    (h : ∀ s', Inv X pins σ H s' → Q (.ref g, []) s') : wpAny (model X.prog X.w) A (getMethod (.ref C) m pl) Q E s := by
  obtain ⟨p, o, ha, rest, hp⟩ := k.at_
  refine PySem.W.method_cls I.kIn k.rd.ga (PySem.W.cls_bind I.kIn k.rd.rd ha ?_)
  refine wpAny_call (PySem.W.sm_get (s := { s with toks := s.toks + 1 }) I.kIn hp (PySem.W.handed_on rfl ?_))
  exact h _ (I.tok _)
section
variable {X : Cx} {CX : CXT} {k : Nat} {C g f : Addr} {mc : Value} {sp : Sp} {E : XK} {o e : Expr} {es : List Expr} {kws : List Keyword} {m x : Str} {pos apos p : Pos} {ta : TE} {t tk : TA} {pl : Sem Bool} {fd : FuncData} {ps ks : List Str}
/-- C.m(e, ..) -/
def tSMeth (C : Addr) (sp : Sp) (E : XK) (ta : TE) (t : TA) : TE := fun σ H Q => ta σ H fun x H1 => x = .ref C ∧ t σ H1 fun vs H2 => sp (vs ++ []) H2 Q E
theorem pe_smeth (he : PE X o ta) (c : SMet X.K C mc m g) (F : FnOk X.prog X.w X.K X.mg X.base CX k g fd ps sp) (hr : Room k X.A) (hb : Binds X.K fd ps []) (hx : Passes CX X E) (ha : PA X (e :: es) t)
    (hst : starEach (e :: es) X.env = (false, eval e X.env) :: starEach es X.env := by rfl) (hpl : (backTo pos (starEach es X.env)).any (·.1) = false := by rfl)
    (ht : eval (.Call (.Attribute o m apos) (e :: es) [] pos) X.env = (do
      let ov ← eval o X.env
      standAt apos.atName
      let (f, first) ← holding [ov] (getMethod ov m pl)
      callWith pos f first (backTo pos (starEach (e :: es) X.env)) (backToKw pos (keywordEach [] X.env))) := by rfl) :
    PE X (.Call (.Attribute o m apos) (e :: es) [] pos) (tSMeth C sp E ta t) := by
  refine ⟨fun pins s σ H Q I h => ?_⟩
  refine PySem.W.methodCall_KW (pl := pl) (thn (he.run pins s σ H _ I h) fun u s1 ⟨x, H1, I1, rx, ex, q⟩ => ?_) ht
  subst ex
  obtain rfl : u = Value.ref C := rx
  refine getmethsm_ok I1 c fun s2 I2 => ?_
  refine PySem.W.callWith_K (first := []) (h₀ := X.base) I.ok.mod.kin c.kp (thn (ha.run pos pins s2 σ H1 _ I2 q) fun us s3 ⟨vs, H2, I3, r, q2⟩ => ⟨I3.kIn, ?_⟩) hst hpl
  exact run_fn F hr hb .nil hx I3 r q2
/-- C.m(k = v, ..) -/
def tSMethK (C : Addr) (sp : Sp) (gV : List V → List V → List V) (E : XK) (ta : TE) (tk : TA) : TE := fun σ H Q => ta σ H fun x H1 => x = .ref C ∧ tk σ H1 fun zs H2 => sp (gV [] zs) H2 Q E
variable {gg : List Value → List Value → List Value} {gV : List V → List V → List V}
theorem pe_smethK (he : PE X o ta) (c : SMet X.K C mc m g) (F : FnOk X.prog X.w X.K X.mg X.base CX k g fd ps sp) (hr : Room k X.A) (hb : KBinds X.K fd ps ks gg gV) (hx : Passes CX X E) (hkw : PK X kws tk)
    (hall : (backToKw pos (keywordEach kws X.env)).all (·.1.isSome) = true := by rfl) (hks : (backToKw pos (keywordEach kws X.env)).filterMap (·.1) = ks := by rfl)
    (hpl : ((backTo pos (starEach [] X.env)).any (·.1) || (backToKw pos (keywordEach kws X.env)).any (·.1.isNone)) = false := by rfl)
    (ht : eval (.Call (.Attribute o m apos) [] kws pos) X.env = (do
      let ov ← eval o X.env
      standAt apos.atName
      let (f, first) ← holding [ov] (getMethod ov m pl)
      callWith pos f first (backTo pos (starEach [] X.env)) (backToKw pos (keywordEach kws X.env))) := by rfl) :
    PE X (.Call (.Attribute o m apos) [] kws pos) (tSMethK C sp gV E ta tk) := by
  refine ⟨fun pins s σ H Q I h => ?_⟩
  refine PySem.W.methodCall_KW (pl := pl) (thn (he.run pins s σ H _ I h) fun u s1 ⟨x, H1, I1, rx, ex, q⟩ => ?_) ht
  subst ex
  obtain rfl : u = Value.ref C := rx
  refine getmethsm_ok I1 c fun s2 I2 => ?_
  refine PySem.W.callWith_KW0 (first := []) (h₀ := X.base) I.ok.mod.kin c.kp hall ?_ hpl
  refine thn (hkw.run pos pins s2 σ H1 _ I2 q) fun ws s3 ⟨zs, H2, I3, rz, q2⟩ => ⟨I3.kIn, ?_⟩
  rw [hks]
  exact run_fnk (us := []) (vs := []) F hr hb hx I3 .nil rz q2
/-- the i-th slot holds the class at C: x(e, ..) makes an instance -/
def tMakeL (i : Nat) (C : Addr) (sp : Sp) (E : XK) (t : TA) : TE := fun σ H Q => σ[i]? = some (some (.ref C)) ∧ tMake C sp [] E t σ H Q
theorem pe_makeL {i : Nat} (M : Mk X.K C f) (F : FnOk X.prog X.w X.K X.mg X.base CX k f fd ps sp) (hr : Room (k + 1) X.A) (hN : X.N[i]? = some x) (hv : Vis X.env.scope x) (hb : Binds X.K fd ps []) (hx : Passes CX X E)
    (ha : PA X (e :: es) t) (hdb : (x == ("__debug__" : Str)) = false := by decide) (hcd : (x == ("__classdict__" : Str)) = false := by decide) (he : starEach (e :: es) X.env = (false, eval e X.env) :: starEach es X.env := by rfl) (hpl : (backTo pos (starEach es X.env)).any (·.1) = false := by rfl) :
    PE X (.Call (.Name x p) (e :: es) [] pos) (tMakeL i C sp E t) := by
  refine ⟨fun pins s σ H Q I h => ?_⟩
  obtain ⟨hs, ht⟩ := h
  refine wpAny_Call_Name_kw (thn ((pe_var (pos := p) hN hv hdb hcd).run pins s σ H (fun v H1 => v = .ref C ∧ H1 = H) I ⟨.ref C, hs, rfl, rfl⟩) fun u s1 ⟨v, H1, I1, r1, q1⟩ => ?_)
  obtain ⟨rfl, rfl⟩ := q1
  cases r1
  refine PySem.W.callWith_K (h₀ := X.base) I.ok.mod.kin M.kp (thn (ha.run pos pins s1 σ _ _ I1 ht) fun us s2 ⟨vs, H2, I2, r, q⟩ => ⟨I2.kIn, ?_⟩) he hpl
  exact run_make M F hr hb .nil hx I2 r q
end

/-! ### a classmethod called with keywords -/
theorem fnR_of {P : Program} {w : World} {K : PySem.W.Frag} {mg : Str → Option Value} {base : Heap} {CX : CXT} {k : Nat} {f : Addr} {fd : FuncData} {ps : List Str} {sp : Sp} (F : FnOk P w K mg base CX k f fd ps sp) (hb : Binds K fd ps []) : FnR P w K mg base CX k f sp := by
  have h := FnOk.raw F hb (.nil : Vals [] [])
  refine FnR.imp h fun vs H Q E q => ?_
  show sp (vs ++ []) H Q E
  rw [List.append_nil]
  exact q
section
variable {X : Cx} {CX : CXT} {k : Nat} {C p g : Addr} {mc : Value} {sp : Sp} {E : XK} {o : Expr} {kws : List Keyword} {m : Str} {pos apos : Pos} {ta : TE} {tk : TA} {pl : Sem Bool} {fd : FuncData} {ps ks : List Str} {gg : List Value → List Value → List Value} {gV : List V → List V → List V}
def tCMethK (C : Addr) (sp : Sp) (gV : List V → List V → List V) (E : XK) (ta : TE) (tk : TA) : TE := fun σ H Q => ta σ H fun x H1 => x = .ref C ∧ tk σ H1 fun zs H2 => sp (gV [.ref C] zs) H2 Q E
theorem pe_cmethK (he : PE X o ta) (r : ClX.CRead X.K C mc) (c : ClX.CMet X.K C mc m p g) (F : FnOk X.prog X.w X.K X.mg X.base CX k g fd ps sp) (hr : Room k X.A) (hb : KBinds X.K fd ps ks gg gV) (hx : Passes CX X E) (hkw : PK X kws tk)
    (hall : (backToKw pos (keywordEach kws X.env)).all (·.1.isSome) = true := by rfl) (hks : (backToKw pos (keywordEach kws X.env)).filterMap (·.1) = ks := by rfl)
    (hpl : ((backTo pos (starEach [] X.env)).any (·.1) || (backToKw pos (keywordEach kws X.env)).any (·.1.isNone)) = false := by rfl)
    (ht : eval (.Call (.Attribute o m apos) [] kws pos) X.env = (do
      let ov ← eval o X.env
      standAt apos.atName
      let (f, first) ← holding [ov] (getMethod ov m pl)
      callWith pos f first (backTo pos (starEach [] X.env)) (backToKw pos (keywordEach kws X.env))) := by rfl) :
    PE X (.Call (.Attribute o m apos) [] kws pos) (tCMethK C sp gV E ta tk) := by
  refine ⟨fun pins s σ H Q I h => ?_⟩
  refine PySem.W.methodCall_KW (pl := pl) (thn (he.run pins s σ H _ I h) fun u s1 ⟨x, H1, I1, rx, ex, q⟩ => ?_) ht
  subst ex
  obtain rfl : u = Value.ref C := rx
  refine ClX.getmethcm_ok I1 r c fun s2 I2 => ?_
  refine PySem.W.callWith_of (P := PySem.W.MethP X.K s1.heap.objs.size g (.ref C)) hpl (PySem.W.keeps_M c.fi) (PyProof.Rows.evalArgs_kw2_nil hall ?_)
  refine thn (hkw.run pos _ s2 σ H1 _ I2 q) fun ws s3 ⟨zs, H2, I3, rz, q2⟩ => ⟨⟨ClX.pin_at I3, I3.kIn⟩, ?_⟩
  rw [hks]
  have r2 := hb.rel (vs := [V.ref C]) (us := [Value.ref C]) (.cons rfl .nil) rz
  have hl : (gg [Value.ref C] ws).length = ps.length := by rw [← r2.length]; exact F.len _ _ _ _ q2
  have z : wpAny (model X.prog X.w) X.A (call (.ref s1.heap.objs.size) [] (ks.zip ws)) (EP X ((s1.heap.objs.size, PySem.W.methodObj (.ref g) (.ref C)) :: pins) σ Q) X.xe s3 := by
    refine wpAny_call (PySem.W.method_call (ClX.pin_at I3) (codeAny_mono (F.run X.A X.stack s3 H2 ⟨[.ref C], ks.zip ws⟩ (gg [.ref C] ws) (gV [.ref C] zs) Q E hr I3.env0 (hb.to s3 [.ref C] ws I3.kIn hl) r2 q2) fun r s' hq => ?_))
    cases r with
    | error e => exact hx _ σ H2 s3 e s' I3 hq
    | ok fl =>
      cases fl with
      | ret u => exact I3.after hq
      | next => exact False.elim hq
      | brk => exact False.elim hq
      | cont => exact False.elim hq
  exact thn z fun _ _ y => ClX.unpinE y
end

/-! ### keywords in the order of the parameters -/
def kperm_0_10 {α : Type} : List α → List α → List α
  | [], [x, y] => [y, x]
  | _, _ => []
def kperm_1_0 {α : Type} : List α → List α → List α
  | [c], [x] => [c, x]
  | _, _ => []
section
variable {K : PySem.W.Frag} {x qual : Str} {st : Stmt} {f : Addr} {fd : FuncData}
theorem kperm_0_10_kb {p0 p1 k0 k1 : Str} (F : Fun K x qual st f fd) (h : ∀ (kV doc pm : Value) (an : Option Addr) (cdv ct : Value) (u v : Value), bindArgs (PySem.W.fnOf x qual (defArgs st) (defBody st) (defScope st) .none kV doc pm an cdv ct) ⟨[], [(k0, u), (k1, v)]⟩ = pure [(p0, v), (p1, u)]) :
    KBinds K fd [p0, p1] [k0, k1] kperm_0_10 kperm_0_10 := by
  obtain ⟨oc, od, kV, doc, pm, an, cdv, ct, osl, rfl, lk, hcd⟩ := F.ex
  refine ⟨fun s us ws _ hl => ?_, fun {vs us zs ws} r r2 => ?_⟩
  · match us, ws, hl with
    | [], [u, v], _ => exact .of_eq (h kV doc pm an cdv ct u v)
    | [], [], hl => simp [kperm_0_10] at hl
    | [], [_], hl => simp [kperm_0_10] at hl
    | [], _ :: _ :: _ :: _, hl => simp [kperm_0_10] at hl
    | _ :: _, _, hl => simp [kperm_0_10] at hl
  · cases r with
    | cons _ _ => exact .nil
    | nil =>
      cases r2 with
      | nil => exact .nil
      | cons a r2 =>
        cases r2 with
        | nil => exact .nil
        | cons b r2 =>
          cases r2 with
          | nil => exact .cons b (.cons a .nil)
          | cons _ _ => exact .nil
theorem kperm_1_0_kb {p0 p1 k0 : Str} (F : Fun K x qual st f fd) (h : ∀ (kV doc pm : Value) (an : Option Addr) (cdv ct : Value) (u v : Value), bindArgs (PySem.W.fnOf x qual (defArgs st) (defBody st) (defScope st) .none kV doc pm an cdv ct) ⟨[u], [(k0, v)]⟩ = pure [(p0, u), (p1, v)]) :
    KBinds K fd [p0, p1] [k0] kperm_1_0 kperm_1_0 := by
  obtain ⟨oc, od, kV, doc, pm, an, cdv, ct, osl, rfl, lk, hcd⟩ := F.ex
  refine ⟨fun s us ws _ hl => ?_, fun {vs us zs ws} r r2 => ?_⟩
  · match us, ws, hl with
    | [u], [v], _ => exact .of_eq (h kV doc pm an cdv ct u v)
    | [], _, hl => simp [kperm_1_0] at hl
    | [_], [], hl => simp [kperm_1_0] at hl
    | [_], _ :: _ :: _, hl => simp [kperm_1_0] at hl
    | _ :: _ :: _, _, hl => simp [kperm_1_0] at hl
  · cases r with
    | nil => exact .nil
    | cons a r =>
      cases r with
      | cons _ _ => exact .nil
      | nil =>
        cases r2 with
        | nil => exact .nil
        | cons b r2 =>
          cases r2 with
          | nil => exact .cons a (.cons b .nil)
          | cons _ _ => exact .nil
end

/-! ### isinstance against an own class -/
structure TyC (K : PySem.W.Frag) (C : Addr) : Prop where
  cl : Cls K C
  hc : PySem.W.findIn K (.ref C) "__class__" = some (some (.builtin "object.__class__"))
  hn : PySem.W.specialIn K (.builtin "object.__class__") "__get__" = some (some (.builtin "getset_descriptor.__get__"))
  ht : PySem.W.takesIn K (.builtin "object.__class__") = some true
  mo : PySem.W.mroIn K C (.type "object") = some true
  ic : PySem.W.isClsIn K C = true
  ty : PySem.W.typeIn K (.ref C) = some (.type "type")
theorem TyC.at {K : PySem.W.Frag} {C : Addr} (T : TyC K C) {H : Hp} {a dx : Addr} {fs : List (Str × V)} (e : H a = some (.ins C dx fs)) : TyOf K H (.ref a) (.ref C) := .ins e T.cl T.hc T.hn T.ht T.mo
theorem kit_self {K : PySem.W.Frag} {C : Addr} : PySem.W.kitOne K (.ref C) (.ref C) = some true := by
  unfold PySem.W.kitOne
  rw [if_pos (by simp)]
theorem TyC.kit {K : PySem.W.Frag} {C : Addr} (T : TyC K C) {t : Value} {b : Bool} (h : PySem.W.subIn K t (.ref C) = some b) (hne : (t == .ref C) = false) : PySem.W.kitOne K t (.ref C) = some b := by
  unfold PySem.W.kitOne
  rw [if_neg (by rw [hne]; decide)]
  unfold PySem.W.kitCls
  have h1 : (PySem.W.clsIn K C).isSome = true := T.ic
  have e : ((PySem.W.clsIn K C).isSome && PySem.W.typeIn K (.ref C) == some (.type "type")) = true := by
    rw [h1, T.ty] <;> rfl
  show (if ((PySem.W.clsIn K C).isSome && PySem.W.typeIn K (.ref C) == some (.type "type")) = true then PySem.W.subIn K t (.ref C) else none) = some b
  rw [if_pos e, h]
end Hk

/-! The readings, step by step: one lemma a combinator, and words that try them. -/
namespace Hk
open PySem PySem.Spec PyProof.Rows L2

theorem cxK {CX : CXT} {P : Program} {w : World} {K : PySem.W.Frag} {mg : Str → Option Value} {base : Heap} {N : List Str} {qual : Str} {scope : Scope} {f : Addr} {cd : Value} {A : Around} {outer : List Env} {s : Shared} {H : Hp} {E : XK} :
    (cxOf CX P w K mg base N qual scope f cd A outer s H E).K = K := rfl

/-! ### names for the built-ins' readings -/
def rLenSeq (K : PySem.W.Frag) : List V → Hp → VK → Prop := fun xs H Q => ∃ p ys, xs = [.ref p] ∧ (SqL K H p ys ∨ SqT K H p ys) ∧ Q (.int ys.length) H
theorem call_lenSeq {X : Cx} : CallR X (.builtin "len") (rLenSeq X.K) := call_len_seq
def rLenStr : List V → Hp → VK → Prop := fun xs H Q => ∃ z, xs = [.str z] ∧ z.length ≤ sizeLine ∧ Q (.int z.length) H
theorem call_lenStr {X : Cx} : CallR X (.builtin "len") rLenStr := call_len_str
def rAbs : List V → Hp → VK → Prop := fun xs H Q => ∃ i, xs = [.int i] ∧ Q (.int (if i < 0 then -i else i)) H
theorem call_absI {X : Cx} : CallR X (.builtin "abs") rAbs := call_abs
def rInt1 : List V → Hp → VK → Prop := fun xs H Q => (∃ i, xs = [.int i] ∧ Q (.int i) H) ∨ ∃ k, xs = [.bl k] ∧ Q (.int (if k then 1 else 0)) H
theorem call_intI {X : Cx} : CallR X (.type "int") rInt1 := call_int1
def rMaxI : List V → Hp → VK → Prop := fun xs H Q => ∃ i j, xs = [.int i, .int j] ∧ Q (.int (if j > i then j else i)) H
theorem call_maxI {X : Cx} (hc : X.calm = true) : CallR X (.builtin "max") rMaxI := call_max2 hc
def rMinI : List V → Hp → VK → Prop := fun xs H Q => ∃ i j, xs = [.int i, .int j] ∧ Q (.int (if j < i then j else i)) H
theorem call_minI {X : Cx} (hc : X.calm = true) : CallR X (.builtin "min") rMinI := call_min2 hc
def rStrS : List V → Hp → VK → Prop := fun xs H Q => ∃ a, xs = [.str a] ∧ Q (.str a) H
theorem call_strS {X : Cx} : CallR X (.type "str") rStrS := SkE.call_str_str
def rListOf (K : PySem.W.Frag) : List V → Hp → VK → Prop := fun xs H Q => ∃ p ys, xs = [.ref p] ∧ (SqL K H p ys ∨ SqT K H p ys) ∧ ∀ l, H l = none → Q (.ref l) (upd H l (.lst ys))
theorem call_listOf {X : Cx} : CallR X (.type "list") (rListOf X.K) := call_list_of
def rTupOf (K : PySem.W.Frag) : List V → Hp → VK → Prop := fun xs H Q => ∃ p ys, xs = [.ref p] ∧ ((SqL K H p ys ∧ ∀ l, H l = none → Q (.ref l) (upd H l (.tup ys))) ∨ (SqT K H p ys ∧ Q (.ref p) H))
theorem call_tupOf {X : Cx} : CallR X (.type "tuple") (rTupOf X.K) := call_tuple_of
def rAddStr : R2 := fun x y H Q => ∃ i j, x = .str i ∧ y = .str j ∧ i.length + j.length ≤ sizeLine ∧ Q (.str (i ++ j)) H
theorem op_addStr {X : Cx} : OpR X (binaryOp .Add) rAddStr := op_add_str
def rInSign : R2 := fun x y H Q => ∃ (c : Nat) (z : Str), x = .str ⟨#[c]⟩ ∧ y = .str z ∧ Q (.bl (decide (c ∈ z.cps.toList))) H
theorem op_inSign {X : Cx} : OpR X (compareOp .In) rInSign := op_in_sign
def rNotInSign : R2 := fun x y H Q => ∃ (c : Nat) (z : Str), x = .str ⟨#[c]⟩ ∧ y = .str z ∧ Q (.bl (!decide (c ∈ z.cps.toList))) H
theorem op_notInSign {X : Cx} : OpR X (compareOp .NotIn) rNotInSign := op_notIn_sign
def rIsNone : R2 := fun x y H Q => y = .non ∧ Q (.bl (decide (x = .non))) H
def rNotNone : R2 := fun x y H Q => y = .non ∧ Q (.bl (!decide (x = .non))) H
theorem op_isNone {X : Cx} : OpR X (compareOp .Is) rIsNone := op_isN
theorem op_notNone {X : Cx} : OpR X (compareOp .IsNot) rNotNone := op_notN

/-! ### heaps -/
section
variable {H H1 H2 : Hp} {p q : Addr} {o u : HO}
theorem upd_new (hq : H q = none) (h : H p = some o) : upd H q u p = some o := by
  rw [upd_ne (ne_of_none h hq)]
  exact h
theorem upd_old (hq : p ≠ q) (h : H p = some o) : upd H q u p = some o := by
  rw [upd_ne hq]
  exact h
theorem upd_oldN (hq : p ≠ q) (h : H p = none) : upd H q u p = none := by
  rw [upd_ne hq]
  exact h
theorem ne_new (hq : H q = none) (h : H p = some o) : p ≠ q := ne_of_none h hq
theorem ne_new' (hq : H q = none) (h : H p = some o) : q ≠ p := (ne_of_none h hq).symm
theorem same_new (h : H q = none) : Same H (upd H q u) := fun b o e => upd_new h e
theorem same_mut (e : Same H H1) (h : H q = none) : Same H (upd H1 q u) := fun b o z => by
  rw [upd_ne (ne_of_none z h)]
  exact e b o z
theorem same_ext (e : Same H H1) (h : H1 q = none) : Same H (upd H1 q u) := e.trans (same_new h)
theorem same_step (e : Same H1 H2) (h : Same H H1) : Same H H2 := h.trans e
theorem same_at (e : Same H H1) (h : H p = some o) : H1 p = some o := e _ _ h
theorem same_none (e : Same H H1) (h : H1 q = none) : H q = none := e.free h
theorem sqL_of {K : PySem.W.Frag} {xs : List V} (h : H p = some (.lst xs)) : SqL K H p xs := .inl (.inl h)
theorem sqT_of {K : PySem.W.Frag} {xs : List V} (h : H p = some (.tup xs)) : SqT K H p xs := .inl (.inl h)
theorem sqT_same {K : PySem.W.Frag} {xs : List V} (e : Same H H1) (h : SqT K H p xs) : SqT K H1 p xs := by
  rcases h with (h | ⟨o, h⟩) | h
  · exact .inl (.inl (e _ _ h))
  · exact .inl (.inr ⟨o, e _ _ h⟩)
  · exact .inr h
/-- a list that is read, behind a store elsewhere -/
theorem sqL_upd {K : PySem.W.Frag} {xs : List V} (hq : p ≠ q) (h : SqL K H p xs) : SqL K (upd H q u) p xs := by
  rcases h with (h | ⟨o, h⟩) | h
  · exact .inl (.inl (upd_old hq h))
  · exact .inl (.inr ⟨o, upd_old hq h⟩)
  · exact .inr h
/-- .. of something that is no list -/
theorem sqL_new {K : PySem.W.Frag} {xs : List V} (hq : H q = none) (h : SqL K H p xs) : SqL K (upd H q u) p xs := (same_new hq).seq h
end

/-! ### readings -/
section
variable {K : PySem.W.Frag} {σ : L2.St} {H : Hp} {Q : VK} {ta tb te tv : TE} {t u : TT} {v x y : V} {D : Ends} {nx bk ct : L2.St → Hp → Prop} {rt : VK} {t1 t2 tu : TS} {tt : TA} {g : TG} {i j : Int} {n : Nat} {f : Str} {b : Bool} {QB : Bool → Hp → Prop} {QA : List V → Hp → Prop} {k : L2.St → Hp → Prop}
theorem rd_seq (h : t1 ⟨t2 ⟨nx, rt, bk, ct⟩, rt, bk, ct⟩ σ H) : tSeq t1 t2 ⟨nx, rt, bk, ct⟩ σ H := h
theorem rd_cut (M : L2.St → Hp → Prop) (h : t1 ⟨M, rt, bk, ct⟩ σ H) (q : ∀ σ' H', M σ' H' → t2 ⟨nx, rt, bk, ct⟩ σ' H') : Evl.tCut t1 t2 ⟨nx, rt, bk, ct⟩ σ H := ⟨M, h, q⟩
theorem rd_asgN {m : Nat} (h : te σ H fun x H1 => t2 ⟨nx, rt, bk, ct⟩ (σ.set m (some x)) H1) : tSeq (tAsg te (gName m)) t2 ⟨nx, rt, bk, ct⟩ σ H := h
theorem rd_next (h : nx σ H) : tNext ⟨nx, rt, bk, ct⟩ σ H := h
theorem rd_asg (h : te σ H fun x H1 => g x σ H1 nx) : tAsg te g ⟨nx, rt, bk, ct⟩ σ H := h
theorem rd_gname (h : k (σ.set n (some v)) H) : gName n v σ H k := h
theorem rd_drop (h : te σ H fun _ H1 => nx σ H1) : tDrop te ⟨nx, rt, bk, ct⟩ σ H := h
theorem rd_ret (h : te σ H rt) : tRet te ⟨nx, rt, bk, ct⟩ σ H := h
theorem rd_retN (h : rt .non H) : tRetN ⟨nx, rt, bk, ct⟩ σ H := h
theorem rd_brk (h : bk σ H) : tBreak ⟨nx, rt, bk, ct⟩ σ H := h
theorem rd_cont (h : ct σ H) : tCont ⟨nx, rt, bk, ct⟩ σ H := h
theorem rd_ifS {c : TT} (h : c σ H fun b H1 => if b = true then t1 ⟨nx, rt, bk, ct⟩ σ H1 else t2 ⟨nx, rt, bk, ct⟩ σ H1) : tIfS c t1 t2 ⟨nx, rt, bk, ct⟩ σ H := h
theorem rd_parA {n m : Nat} (h : tt σ H fun vs H1 => ∃ v w, vs = [v, w] ∧ nx ((σ.set n (some v)).set m (some w)) H1) : tPar n m tt ⟨nx, rt, bk, ct⟩ σ H := h
theorem rd_par3A {n m l : Nat} (h : tt σ H fun vs H1 => ∃ u v w, vs = [u, v, w] ∧ nx (((σ.set n (some u)).set m (some v)).set l (some w)) H1) : tPar3 n m l tt ⟨nx, rt, bk, ct⟩ σ H := h
theorem rd_par3 {u v w : V} {P : V → V → V → Prop} (h : P u v w) : ∃ u' v' w', [u, v, w] = [u', v', w'] ∧ P u' v' w' := ⟨u, v, w, rfl, h⟩
theorem rd_whileN {c : TT} {tb : TS} (W : Nat → L2.St → Hp → Prop) (m : Nat) (w0 : W m σ H) (hs : ∀ m σ H, W m σ H → c σ H fun b H1 => if b = true then ∃ N : L2.St → Hp → Prop, (∀ σ' H', N σ' H' → ∃ m', m' < m ∧ W m' σ' H') ∧ tb ⟨N, rt, nx, N⟩ σ H1 else nx σ H1) : tWhile c tb ⟨nx, rt, bk, ct⟩ σ H := ⟨W, ⟨m, w0⟩, hs⟩
theorem rd_par2 {v w : V} {P : V → V → Prop} (h : P v w) : ∃ v' w', [v, w] = [v', w'] ∧ P v' w' := ⟨v, w, rfl, h⟩
theorem rd_var (e : σ[n]? = some (some v)) (h : Q v H) : tVar n σ H Q := ⟨v, e, h⟩
theorem rd_c (h : Q v H) : tC v σ H Q := h
theorem rd_op {r : R2} (h : ta σ H fun x H1 => tb σ H1 fun y H2 => r x y H2 Q) : tOp r ta tb σ H Q := h
theorem rd_un {r : V → Hp → VK → Prop} (h : ta σ H fun x H1 => r x H1 Q) : tUn r ta σ H Q := h
theorem rd_cb {r : List V → Hp → VK → Prop} (h : tt σ H fun vs H1 => r vs H1 Q) : tCB r tt σ H Q := h
theorem rd_cons (h : te σ H fun x H1 => tt σ H1 fun xs H2 => QA (x :: xs) H2) : tCons te tt σ H QA := h
theorem rd_nil (h : QA [] H) : tNil σ H QA := h
theorem rd_test (h : te σ H fun x H' => ∃ k, x = .bl k ∧ QB k H') : tTest te σ H QB := h
theorem rd_B (h : te σ H fun x H' => ∃ k, x = .bl k ∧ QB k H') : tB te σ H QB := h
theorem rd_bl {P : Bool → Prop} (h : P b) : ∃ k, V.bl b = .bl k ∧ P k := ⟨b, rfl, h⟩
theorem rd_and (h : t σ H fun c H1 => if c = true then u σ H1 QB else QB false H1) : tAnd t u σ H QB := h
theorem rd_or (h : t σ H fun c H1 => if c = true then QB true H1 else u σ H1 QB) : tOr t u σ H QB := h
theorem rd_not (h : t σ H fun c H1 => QB (!c) H1) : tNot t σ H QB := h
theorem rd_andV (h : ta σ H fun x H1 => ∃ c, x = .bl c ∧ if c = true then tb σ H1 Q else Q (.bl false) H1) : tAndV ta tb σ H Q := h
theorem rd_orV (h : ta σ H fun x H1 => ∃ c, x = .bl c ∧ if c = true then Q (.bl true) H1 else tb σ H1 Q) : tOrV ta tb σ H Q := h
theorem rd_notV (h : ta σ H fun x H1 => ∃ c, x = .bl c ∧ Q (.bl (!c)) H1) : tNotV ta σ H Q := h
theorem rd_if (h : t σ H fun c H1 => if c = true then ta σ H1 Q else tb σ H1 Q) : tIf t ta tb σ H Q := h
theorem rd_I0 {g : Int → Int → V} (h : Q (g i j) H) : rI0 g (.int i) (.int j) H Q := ⟨i, j, rfl, rfl, h⟩
theorem rd_I {C : Int → Int → Prop} {g : Int → Int → V} (c : C i j) (h : Q (g i j) H) : rI C g (.int i) (.int j) H Q := ⟨i, j, rfl, rfl, c, h⟩
theorem rd_mod (c : 0 < j) (h : Q (.int (i % j)) H) : rI (fun _ j => 0 < j) (fun i j => .int (i % j)) (.int i) (.int j) H Q := ⟨i, j, rfl, rfl, c, h⟩
theorem cdivW (h : 0 < j) (hb : j < 2 ^ 100) : CDivW i j := wide_div (b := 100) h (by
  have e : ((2 : Int) ^ 100) = ((2 ^ 100 : Nat) : Int) := by decide
  rw [e] at hb
  omega) (by decide) (by decide)
theorem rd_div (c : 0 < j) (c2 : j < 2 ^ 100) (h : Q (.int (i / j)) H) : rI CDivW (fun i j => .int (i / j)) (.int i) (.int j) H Q := ⟨i, j, rfl, rfl, cdivW c c2, h⟩
theorem rd_mulR (c : -(2 ^ 64) < j) (c2 : j < 2 ^ 64) (h : Q (.int (i * j)) H) : rI CMul (fun i j => .int (i * j)) (.int i) (.int j) H Q := ⟨i, j, rfl, rfl, .inr ⟨c, c2⟩, h⟩
theorem rd_mulL (c : -(2 ^ 64) < i) (c2 : i < 2 ^ 64) (h : Q (.int (i * j)) H) : rI CMul (fun i j => .int (i * j)) (.int i) (.int j) H Q := ⟨i, j, rfl, rfl, .inl ⟨c, c2⟩, h⟩
theorem rd_pow (c : CPow i j) (h : Q (.int (i ^ j.toNat)) H) : rI CPow (fun i j => .int (i ^ j.toNat)) (.int i) (.int j) H Q := ⟨i, j, rfl, rfl, c, h⟩
theorem rd_U {g : Int → V} (h : Q (g i) H) : rU g (.int i) H Q := ⟨i, rfl, h⟩
theorem rd_eq (e : scal x y = true) (h : Q (.bl (decide (x = y))) H) : rEq x y H Q := ⟨e, h⟩
theorem rd_ne (e : scal x y = true) (h : Q (.bl (!decide (x = y))) H) : rNe x y H Q := ⟨e, h⟩
theorem rd_isNone (h : Q (.bl (decide (x = .non))) H) : rIsNone x .non H Q := ⟨rfl, h⟩
theorem rd_notNone (h : Q (.bl (!decide (x = .non))) H) : rNotNone x .non H Q := ⟨rfl, h⟩
theorem rd_ixL {p : Addr} {xs : List V} (h : SqL K H p xs) (e : atI xs i = some v) (q : Q v H) : rIxL K (.ref p) (.int i) H Q := ⟨p, xs, i, v, rfl, rfl, h, e, q⟩
theorem rd_ixT {p : Addr} {xs : List V} (h : SqT K H p xs) (e : atI xs i = some v) (q : Q v H) : rIxT K (.ref p) (.int i) H Q := ⟨p, xs, i, v, rfl, rfl, h, e, q⟩
theorem rd_ixS {z : Str} {c : Nat} (hz : z.length ≤ sizeLine) (e : atI z.cps.toList i = some c) (q : Q (.str ⟨#[c]⟩) H) : rIxS (.str z) (.int i) H Q := ⟨z, i, c, rfl, rfl, hz, e, q⟩
theorem rd_lenL {p : Addr} {xs : List V} (h : SqL K H p xs) (q : Q (.int xs.length) H) : rLenSeq K [.ref p] H Q := ⟨p, xs, rfl, .inl h, q⟩
theorem rd_lenT {p : Addr} {xs : List V} (h : SqT K H p xs) (q : Q (.int xs.length) H) : rLenSeq K [.ref p] H Q := ⟨p, xs, rfl, .inr h, q⟩
theorem rd_lenS {z : Str} (hz : z.length ≤ sizeLine) (q : Q (.int z.length) H) : rLenStr [.str z] H Q := ⟨z, rfl, hz, q⟩
theorem rd_abs (q : Q (.int (if i < 0 then -i else i)) H) : rAbs [.int i] H Q := ⟨i, rfl, q⟩
theorem rd_int (q : Q (.int i) H) : rInt1 [.int i] H Q := .inl ⟨i, rfl, q⟩
theorem rd_max (q : Q (.int (if j > i then j else i)) H) : rMaxI [.int i, .int j] H Q := ⟨i, j, rfl, q⟩
theorem rd_min (q : Q (.int (if j < i then j else i)) H) : rMinI [.int i, .int j] H Q := ⟨i, j, rfl, q⟩
theorem rd_strS {z : Str} (q : Q (.str z) H) : rStrS [.str z] H Q := ⟨z, rfl, q⟩
theorem rd_listL {p : Addr} {xs : List V} (h : SqL K H p xs) (q : ∀ l, H l = none → Q (.ref l) (upd H l (.lst xs))) : rListOf K [.ref p] H Q := ⟨p, xs, rfl, .inl h, q⟩
theorem rd_listT {p : Addr} {xs : List V} (h : SqT K H p xs) (q : ∀ l, H l = none → Q (.ref l) (upd H l (.lst xs))) : rListOf K [.ref p] H Q := ⟨p, xs, rfl, .inr h, q⟩
theorem rd_tupL {p : Addr} {xs : List V} (h : SqL K H p xs) (q : ∀ l, H l = none → Q (.ref l) (upd H l (.tup xs))) : rTupOf K [.ref p] H Q := ⟨p, xs, rfl, .inl ⟨h, q⟩⟩
theorem rd_tupT {p : Addr} {xs : List V} (h : SqT K H p xs) (q : Q (.ref p) H) : rTupOf K [.ref p] H Q := ⟨p, xs, rfl, .inr ⟨h, q⟩⟩
theorem rd_addS {z w : Str} (hz : z.length + w.length ≤ sizeLine) (q : Q (.str (z ++ w)) H) : rAddStr (.str z) (.str w) H Q := ⟨z, w, rfl, rfl, hz, q⟩
theorem rd_inSign {c : Nat} {z : Str} (q : Q (.bl (decide (c ∈ z.cps.toList))) H) : rInSign (.str ⟨#[c]⟩) (.str z) H Q := ⟨c, z, rfl, rfl, q⟩
theorem rd_notInSign {c : Nat} {z : Str} (q : Q (.bl (!decide (c ∈ z.cps.toList))) H) : rNotInSign (.str ⟨#[c]⟩) (.str z) H Q := ⟨c, z, rfl, rfl, q⟩
theorem rd_tup (h : tt σ H fun xs H1 => xs.length ≤ sizeLine ∧ ∀ p, H1 p = none → Q (.ref p) (upd H1 p (.tup xs))) : tTup tt σ H Q := h
theorem rd_lst (h : tt σ H fun xs H1 => xs.length ≤ sizeLine ∧ ∀ p, H1 p = none → Q (.ref p) (upd H1 p (.lst xs))) : tLst tt σ H Q := h
theorem sz_of {n : Nat} (h : n ≤ 100000) : n ≤ sizeLine := Nat.le_trans h (by decide)
theorem sz_lt {n : Nat} (h : n < 100000) : n < sizeLine := Nat.lt_of_lt_of_le h (by decide)
theorem rd_new {xs : List V} {P : Addr → Prop} (e : xs.length ≤ sizeLine) (h : ∀ p, P p) : xs.length ≤ sizeLine ∧ ∀ p, P p := ⟨e, h⟩
theorem rd_slL {p : Addr} {xs : List V} {lo hi : Option Int} (h : SqL K H p xs) (q : ∀ l, H l = none → Q (.ref l) (upd H l (.lst (cutV xs lo hi)))) : rSlL K (.ref p) lo hi H Q := ⟨p, xs, rfl, h, q⟩
theorem rd_slS {z : Str} {lo hi : Option Int} (hz : z.length ≤ sizeLine) (q : Q (.str (cutS z lo hi)) H) : rSlS (.str z) lo hi H Q := ⟨z, rfl, hz, q⟩
theorem rd_sl {r : V → Option Int → Option Int → Hp → VK → Prop} {tl th : TO} (h : te σ H fun x H1 => tl σ H1 fun l H2 => th σ H2 fun u H3 => r x l u H3 Q) : tSl r te tl th σ H Q := h
theorem rd_noPart {P : Option Int → Hp → Prop} (h : P none H) : tNoPart σ H P := h
theorem rd_part {P : Option Int → Hp → Prop} (h : te σ H fun x H1 => ∃ i, x = .int i ∧ P (some i) H1) : tPart te σ H P := h
theorem rd_isInt {P : Int → Prop} (h : P i) : ∃ k, V.int i = .int k ∧ P k := ⟨i, rfl, h⟩
/-- an attribute -/
def FldK (K : PySem.W.Frag) (f : Str) (x : V) (H : Hp) (Q : VK) : Prop := ∃ a C dx fs v, x = .ref a ∧ H a = some (.ins C dx fs) ∧ Cls K C ∧ NoAttr K C f ∧ fs.lookup f = some v ∧ Q v H
theorem rd_fld (h : ta σ H fun x H1 => FldK K f x H1 Q) : tFld K ta f σ H Q := h
theorem rd_fldK {a C dx : Addr} {fs : List (Str × V)} (e : H a = some (.ins C dx fs)) (c : Cls K C) (n : NoAttr K C f) (l : fs.lookup f = some v) (q : Q v H) : FldK K f (.ref a) H Q := ⟨a, C, dx, fs, v, rfl, e, c, n, l, q⟩
def SFldK (K : PySem.W.Frag) (f : Str) (y x : V) (H : Hp) (P : Hp → Prop) : Prop := ∃ a C dx fs, x = .ref a ∧ H a = some (.ins C dx fs) ∧ Cls K C ∧ NoAttr K C f ∧ fs.length < 1000 ∧ P (upd H a (.ins C dx (putF f y fs)))
theorem rd_sfld (h : tv σ H fun y H1 => ta σ H1 fun x H2 => SFldK K f y x H2 (nx σ)) : sFld K ta tv f ⟨nx, rt, bk, ct⟩ σ H := h
theorem rd_sfldK {a C dx : Addr} {fs : List (Str × V)} {P : Hp → Prop} (e : H a = some (.ins C dx fs)) (c : Cls K C) (n : NoAttr K C f) (l : fs.length < 1000) (q : P (upd H a (.ins C dx (putF f y fs)))) : SFldK K f y (.ref a) H P := ⟨a, C, dx, fs, rfl, e, c, n, l, q⟩
/-- e.f += n, ints -/
theorem rd_sfldAdd {a C dx : Addr} {fs : List (Str × V)} (ha : ta σ H fun x H1 => x = .ref a ∧ H1 = H) (e : H a = some (.ins C dx fs)) (c : Cls K C) (n : NoAttr K C f) (l : fs.lookup f = some (.int i)) (hv : tv σ H fun y H1 => y = .int j ∧ H1 = H)
    (mt : ∀ Q Q' : VK, (∀ v H, Q v H → Q' v H) → tv σ H Q → tv σ H Q') (ma : ∀ Q Q' : VK, (∀ v H, Q v H → Q' v H) → ta σ H Q → ta σ H Q') (hl : fs.length < 1000) (q : D.nx σ (upd H a (.ins C dx (putF f (.int (i + j)) fs)))) : sFldAug K ta tv rAdd f D σ H :=
  ma _ _ (fun x H1 ⟨ex, eh⟩ => by
    subst ex eh
    refine ⟨a, C, dx, fs, .int i, rfl, e, c, n, l, mt _ _ (fun y H2 ⟨ey, eh⟩ => ?_) hv⟩
    subst ey eh
    exact ⟨i, j, rfl, rfl, dx, fs, e, hl, q⟩) ha
def AugK (K : PySem.W.Frag) (f : Str) (tv : TE) (rd : V → V → Hp → VK → Prop) (σ : L2.St) (x : V) (H1 : Hp) (P : Hp → Prop) : Prop := ∃ a C dx fs v, x = .ref a ∧ H1 a = some (.ins C dx fs) ∧ Cls K C ∧ NoAttr K C f ∧ fs.lookup f = some v ∧
  tv σ H1 fun y H2 => rd v y H2 fun z H3 => ∃ dx' fs', H3 a = some (.ins C dx' fs') ∧ fs'.length < 1000 ∧ P (upd H3 a (.ins C dx' (putF f z fs')))
theorem rd_aug {rd : V → V → Hp → VK → Prop} (h : ta σ H fun x H1 => AugK K f tv rd σ x H1 (nx σ)) : sFldAug K ta tv rd f ⟨nx, rt, bk, ct⟩ σ H := h
theorem rd_augK {rd : V → V → Hp → VK → Prop} {a C dx : Addr} {fs : List (Str × V)} {P : Hp → Prop} (e : H a = some (.ins C dx fs)) (c : Cls K C) (n : NoAttr K C f) (l : fs.lookup f = some v)
    (q : tv σ H fun y H2 => rd v y H2 fun z H3 => ∃ dx' fs', H3 a = some (.ins C dx' fs') ∧ fs'.length < 1000 ∧ P (upd H3 a (.ins C dx' (putF f z fs')))) : AugK K f tv rd σ (.ref a) H P := ⟨a, C, dx, fs, v, rfl, e, c, n, l, q⟩
theorem rd_rAdd (q : Q (.int (i + j)) H) : rAdd (.int i) (.int j) H Q := ⟨i, j, rfl, rfl, q⟩
theorem rd_augE {a C dx : Addr} {fs : List (Str × V)} {P : Addr → List (Str × V) → Prop} (e : H a = some (.ins C dx fs)) (l : fs.length < 1000) (q : P dx fs) : ∃ dx' fs', H a = some (.ins C dx' fs') ∧ fs'.length < 1000 ∧ P dx' fs' := ⟨dx, fs, e, l, q⟩
/-- calls -/
theorem rd_call {sp : Sp} {E : XK} (h : tt σ H fun vs H1 => sp (vs ++ []) H1 Q E) : tCall sp [] E tt σ H Q := h
def MethK (C : Addr) (m : Str) (sp : Sp) (E : XK) (t : TA) (σ : L2.St) (x : V) (H1 : Hp) (Q : VK) : Prop := ∃ a dx fs, x = .ref a ∧ H1 a = some (.ins C dx fs) ∧ fs.lookup m = none ∧ t σ H1 fun vs H2 => sp (x :: (vs ++ [])) H2 Q E
theorem rd_meth {C : Addr} {m : Str} {sp : Sp} {E : XK} (h : ta σ H fun x H1 => MethK C m sp E tt σ x H1 Q) : tMeth C m sp [] E ta tt σ H Q := h
theorem rd_methK {C a dx : Addr} {m : Str} {sp : Sp} {E : XK} {fs : List (Str × V)} (e : H a = some (.ins C dx fs)) (l : fs.lookup m = none) (q : tt σ H fun vs H2 => sp (.ref a :: (vs ++ [])) H2 Q E) : MethK C m sp E tt σ (.ref a) H Q := ⟨a, dx, fs, rfl, e, l, q⟩
theorem rd_make {C : Addr} {sp : Sp} {E : XK} (h : tt σ H fun vs H1 => ∀ x dx, H1 x = none → H1 dx = none → dx ≠ x → sp (.ref x :: (vs ++ [])) (upd (upd H1 dx (.own x)) x (.ins C dx [])) (fun v H2 => v = .non ∧ Q (.ref x) H2) E) : tMake C sp [] E tt σ H Q := h
theorem rd_makeL {C : Addr} {sp : Sp} {E : XK} (e : σ[n]? = some (some (.ref C))) (h : tMake C sp [] E tt σ H Q) : tMakeL n C sp E tt σ H Q := ⟨e, h⟩
theorem rd_smeth {C : Addr} {sp : Sp} {E : XK} (h : ta σ H fun x H1 => x = .ref C ∧ tt σ H1 fun vs H2 => sp (vs ++ []) H2 Q E) : tSMeth C sp E ta tt σ H Q := h
theorem rd_isC {C : Addr} {P : Prop} (h : P) : V.ref C = .ref C ∧ P := ⟨rfl, h⟩
theorem rd_smethK {C : Addr} {sp : Sp} {E : XK} {gV : List V → List V → List V} (h : ta σ H fun x H1 => x = .ref C ∧ tt σ H1 fun zs H2 => sp (gV [] zs) H2 Q E) : tSMethK C sp gV E ta tt σ H Q := h
theorem rd_cmeth {C : Addr} {sp : Sp} {E : XK} (h : ta σ H fun x H1 => x = .ref C ∧ tt σ H1 fun vs H2 => sp (.ref C :: vs) H2 Q E) : ClX.tCMeth C sp E ta tt σ H Q := h
theorem rd_cmethK {C : Addr} {sp : Sp} {E : XK} {gV : List V → List V → List V} (h : ta σ H fun x H1 => x = .ref C ∧ tt σ H1 fun zs H2 => sp (gV [.ref C] zs) H2 Q E) : tCMethK C sp gV E ta tt σ H Q := h
/-- methods of built-in types -/
def BmK (K : PySem.W.Frag) (T : String) (r : V → List V → Hp → VK → Prop) (t : TA) (σ : L2.St) (x : V) (H1 : Hp) (Q : VK) : Prop := tyV K T x H1 ∧ t σ H1 fun xs H2 => r x xs H2 Q
theorem rd_bm {T : String} {r : V → List V → Hp → VK → Prop} (h : ta σ H fun x H1 => BmK K T r tt σ x H1 Q) : tBM K T r ta tt σ H Q := h
theorem rd_bmL {r : V → List V → Hp → VK → Prop} {p : Addr} {xs : List V} (e : H p = some (.lst xs)) (q : tt σ H fun xs H2 => r (.ref p) xs H2 Q) : BmK K "list" r tt σ (.ref p) H Q := ⟨.inl ⟨rfl, _, SqL.of e⟩, q⟩
def Bm0K (K : PySem.W.Frag) (T : String) (r : V → List V → Hp → VK → Prop) (x : V) (H1 : Hp) (Q : VK) : Prop := tyV K T x H1 ∧ r x [] H1 Q
theorem rd_bm0 {T : String} {r : V → List V → Hp → VK → Prop} (h : ta σ H fun x H1 => Bm0K K T r x H1 Q) : tBM0 K T r ta σ H Q := h
theorem rd_bm0L {r : V → List V → Hp → VK → Prop} {p : Addr} {xs : List V} (e : H p = some (.lst xs)) (q : r (.ref p) [] H Q) : Bm0K K "list" r (.ref p) H Q := ⟨.inl ⟨rfl, _, SqL.of e⟩, q⟩
theorem rd_append {p : Addr} {xs : List V} (e : H p = some (.lst xs)) (l : xs.length < sizeLine) (q : Q .non (upd H p (.lst (xs ++ [y])))) : rAppend (.ref p) [y] H Q := ⟨p, xs, y, rfl, rfl, e, l, q⟩
theorem rd_clear {p : Addr} {xs : List V} (e : H p = some (.lst xs)) (q : Q .non (upd H p (.lst []))) : rClear (.ref p) [] H Q := ⟨p, xs, rfl, rfl, e, q⟩
theorem rd_pop {p : Addr} {xs : List V} (e : H p = some (.lst xs)) (l : xs[xs.length - 1]? = some y) (q : Q y (upd H p (.lst xs.dropLast))) : rPop (.ref p) [] H Q := ⟨p, xs, y, rfl, rfl, e, l, q⟩
theorem rd_popAt {p : Addr} {xs : List V} {k : Nat} (e : H p = some (.lst xs)) (hk : xs[k]? = some y) (hb : xs.length ≤ 100000) (q : Q y (upd H p (.lst (xs.eraseIdx k)))) : rPopAt (.ref p) [.int (k : Nat)] H Q := by
  have hl := (List.getElem?_eq_some_iff.mp hk).1
  refine ⟨p, xs, (k : Nat), k, y, rfl, rfl, e, by omega, by omega, ?_, hk, q⟩
  unfold seqIndex?
  have hn : ¬ ((k : Nat) : Int) < 0 := by omega
  simp only [if_neg hn]
  simp
  omega
theorem rd_cat {p r : Addr} {xs ys : List V} (e : H p = some (.lst xs)) (e2 : H r = some (.lst ys)) (hb : xs.length + ys.length ≤ 100000) (q : ∀ l, H l = none → Q (.ref l) (upd H l (.lst (xs ++ ys)))) : rCat (.ref p) (.ref r) H Q := ⟨p, r, xs, ys, rfl, rfl, e, e2, sz_of hb, q⟩
theorem rd_all {p : Addr} {bs : List Bool} (h : SqL K H p (bs.map V.bl)) (q : Q (.bl (bs.all id)) H) : rAll K [.ref p] H Q := ⟨p, bs, rfl, h, q⟩
theorem rd_m1 {r : V → List V → Hp → VK → Prop} (h : ta σ H fun x H1 => (∃ a, x = .str a) ∧ tb σ H1 fun y H2 => r x [y] H2 Q) : tM1 r ta tb σ H Q := h
theorem rd_isStr {z : Str} {P : Prop} (h : P) : (∃ a, V.str z = .str a) ∧ P := ⟨⟨z, rfl⟩, h⟩
def CValK (K : PySem.W.Frag) (f : Str) (x : V) (H : Hp) (Q : VK) : Prop := ∃ C mc v u, x = .ref C ∧ ClX.CRead K C mc ∧ ClX.CVal K C mc f v u ∧ Q v H
theorem rd_cval (h : ta σ H fun x H1 => CValK K f x H1 Q) : ClX.tCVal K ta f σ H Q := h
theorem rd_cvalK {C : Addr} {mc u : Value} (r : ClX.CRead K C mc) (c : ClX.CVal K C mc f v u) (q : Q v H) : CValK K f (.ref C) H Q := ⟨C, mc, v, u, rfl, r, c, q⟩
theorem rd_setL {p : Addr} {xs : List V} {m : Nat} {P : Hp → Prop} (e : H p = some (.lst xs)) (l : ixN xs.length i = some m) (q : P (upd H p (.lst (xs.set m v)))) : rSetL (.ref p) (.int i) v H P := ⟨p, xs, i, m, rfl, rfl, e, l, q⟩
theorem rd_gsub {to ti : TE} {ts : TSet} (h : to σ H fun o H1 => ti σ H1 fun i H2 => ts o i v H2 fun H3 => k σ H3) : gSub to ti ts v σ H k := h
theorem rd_gtup {a : Addr} {xs : List V} {m : Nat} {ts : TGs} (e : SqT K H a xs) (l : xs.length = m) (q : ts xs σ H k) : gTup K m ts (.ref a) σ H k := ⟨a, xs, rfl, e, l, q⟩
theorem rd_gcons {r : List V} {ts : TGs} (h : g v σ H fun σ' H' => ts r σ' H' k) : gCons g ts (v :: r) σ H k := ⟨v, r, rfl, h⟩
theorem rd_gnil (h : k σ H) : gNil [] σ H k := ⟨rfl, h⟩
theorem rd_isi {x c : V} {t u : Value} (k : ClsV c u) (ty : TyX K H x t) (e : PySem.W.kitOne K t u = some b) (q : Q (.bl b) H) : rIsi K [x, c] H Q := ⟨x, c, t, u, b, rfl, k, ty, e, q⟩
theorem rd_inSeqL {p : Addr} {xs : List V} {neg : Bool} (h : SqL K H p xs) (fx : flatV x = true) (fa : xs.all flatV = true) (q : Q (.bl (if neg then !inV x xs else inV x xs)) H) : rIn K neg x (.ref p) H Q := ⟨p, xs, rfl, .inl h, fx, fa, q⟩
theorem rd_inSeqT {p : Addr} {xs : List V} {neg : Bool} (h : SqT K H p xs) (fx : flatV x = true) (fa : xs.all flatV = true) (q : Q (.bl (if neg then !inV x xs else inV x xs)) H) : rIn K neg x (.ref p) H Q := ⟨p, xs, rfl, .inr h, fx, fa, q⟩
theorem rd_eqD {d e : PyData} (hx : Dp K H x d) (hy : Dp K H y e) (s1 : SeqAt.shaped d = true) (s2 : SeqAt.shaped e = true) (q : Q (.bl (PyData.eqv d e)) H) : rEqD K x y H Q := ⟨d, e, hx, hy, s1, s2, q⟩
theorem rd_neD {d e : PyData} (hx : Dp K H x d) (hy : Dp K H y e) (s1 : SeqAt.shaped d = true) (s2 : SeqAt.shaped e = true) (q : Q (.bl (!PyData.eqv d e)) H) : rNeD K x y H Q := ⟨d, e, hx, hy, s1, s2, q⟩
theorem ifT {A B : Prop} (e : b = true) (h : A) : if b = true then A else B := by
  rw [if_pos e]
  exact h
theorem ifF {A B : Prop} (e : b = false) (h : B) : if b = true then A else B := by
  rw [e, if_neg Bool.false_ne_true]
  exact h
theorem ifB {A B : Prop} (h1 : b = true → A) (h2 : b = false → B) : if b = true then A else B := by
  cases b with
  | true => exact ifT rfl (h1 rfl)
  | false => exact ifF rfl (h2 rfl)
/-- an if on a decision -/
theorem ifD {c : Prop} [Decidable c] {A B : Prop} (h1 : c → A) (h2 : ¬ c → B) : if decide c = true then A else B := by
  by_cases h : c
  · exact ifT (decide_eq_true h) (h1 h)
  · exact ifF (decide_eq_false h) (h2 h)
theorem ifN {c : Prop} [Decidable c] {A B : Prop} (h1 : ¬ c → A) (h2 : c → B) : if (!decide c) = true then A else B := by
  by_cases h : c
  · exact ifF (by rw [decide_eq_true h]; rfl) (h2 h)
  · exact ifT (by rw [decide_eq_false h]; rfl) (h1 h)
end

/-! ### loops -/
def ForK (J : It) (g : TG) (tb : TS) (D : Ends) (σ : L2.St) (H1 : Hp) : Prop := ∃ W : Nat → Nat → L2.St → Hp → Prop, (∃ m, W 0 m σ H1) ∧ ∀ i m σ H, W i m σ H →
  (J.stop i H ∧ D.nx σ H) ∨ (J.go i H ∧ ∃ N : L2.St → Hp → Prop, (∀ σ' H', N σ' H' → ∃ m', m' < m ∧ W (i + 1) m' σ' H') ∧ ∀ x H', J.yld i H x H' → g x σ H' fun σ2 H2 => tb { D with nx := N, ct := N, bk := D.nx } σ2 H2)
section
variable {K : PySem.W.Frag} {σ : L2.St} {H : Hp} {g : TG} {tb : TS} {D : Ends} {nx bk ct : L2.St → Hp → Prop} {rt : VK} {a : Addr} {xs : List V} {tl : TE} {ta : TA} {R : It → Hp → Prop}
theorem rd_for {wi : TI} (h : wi σ H fun J H1 => ForK J g tb ⟨nx, rt, bk, ct⟩ σ H1) : tFor wi g tb ⟨nx, rt, bk, ct⟩ σ H := h
def IList (K : PySem.W.Frag) (x : V) (H : Hp) (R : It → Hp → Prop) : Prop := ∃ a, x = .ref a ∧ (∃ xs, SqL K H a xs) ∧ R (Itl K a) H
def ITup (K : PySem.W.Frag) (x : V) (H : Hp) (R : It → Hp → Prop) : Prop := ∃ a, x = .ref a ∧ (∃ xs, SqT K H a xs) ∧ R (Itt K a) H
theorem rd_iList (h : tl σ H fun x H1 => IList K x H1 R) : iList K tl σ H R := h
theorem rd_IList (h : SqL K H a xs) (q : R (Itl K a) H) : IList K (.ref a) H R := ⟨a, rfl, ⟨xs, h⟩, q⟩
theorem rd_iTup (h : tl σ H fun x H1 => ITup K x H1 R) : iTup K tl σ H R := h
theorem rd_ITup (h : SqT K H a xs) (q : R (Itt K a) H) : ITup K (.ref a) H R := ⟨a, rfl, ⟨xs, h⟩, q⟩
def IEnum (K : PySem.W.Frag) (vs : List V) (H : Hp) (R : It → Hp → Prop) : Prop := ∃ a xs, vs = [.ref a] ∧ SqL K H a xs ∧ R (Ite K a) H
theorem rd_iEnum (h : ta σ H fun vs H1 => IEnum K vs H1 R) : iEnum K ta σ H R := h
theorem rd_IEnum (h : SqL K H a xs) (q : R (Ite K a) H) : IEnum K [.ref a] H R := ⟨a, xs, rfl, h, q⟩
def IRng1 (vs : List V) (H : Hp) (R : It → Hp → Prop) : Prop := ∃ j : Int, vs = [.int j] ∧ -(2 ^ 62) ≤ j ∧ j < 2 ^ 62 ∧ R (Itr 0 j.toNat) H
theorem rd_iRng1 (h : ta σ H fun vs H1 => IRng1 vs H1 R) : iRng1 ta σ H R := h
theorem rd_IRng1 {j : Int} (h : -(2 ^ 62) ≤ j) (h2 : j < 2 ^ 62) (q : R (Itr 0 j.toNat) H) : IRng1 [.int j] H R := ⟨j, rfl, h, h2, q⟩
def IRng2 (vs : List V) (H : Hp) (R : It → Hp → Prop) : Prop := ∃ i j : Int, vs = [.int i, .int j] ∧ (-(2 ^ 62) ≤ i ∧ i < 2 ^ 62 ∧ -(2 ^ 62) ≤ j ∧ j < 2 ^ 62) ∧ R (Itr i (j - i).toNat) H
theorem rd_iRng2 (h : ta σ H fun vs H1 => IRng2 vs H1 R) : iRng2 ta σ H R := h
theorem rd_IRng2 {i j : Int} (h : -(2 ^ 62) ≤ i ∧ i < 2 ^ 62 ∧ -(2 ^ 62) ≤ j ∧ j < 2 ^ 62) (q : R (Itr i (j - i).toNat) H) : IRng2 [.int i, .int j] H R := ⟨i, j, rfl, h, q⟩
theorem fk_list (Pv : Nat → L2.St → Hp → Prop) (h0 : Pv 0 σ H) (hl : ∀ i σ H, i ≤ xs.length → Pv i σ H → SqL K H a xs)
    (hs : ∀ i x σ H, xs[i]? = some x → Pv i σ H → g x σ H fun σ2 H2 => tb ⟨Pv (i + 1), rt, nx, Pv (i + 1)⟩ σ2 H2) (hd : ∀ σ H, Pv xs.length σ H → nx σ H) : ForK (Itl K a) g tb ⟨nx, rt, bk, ct⟩ σ H := for_list Pv h0 hl hs hd
theorem fk_tup (Pv : Nat → L2.St → Hp → Prop) (h0 : Pv 0 σ H) (hl : ∀ i σ H, i ≤ xs.length → Pv i σ H → SqT K H a xs)
    (hs : ∀ i x σ H, xs[i]? = some x → Pv i σ H → g x σ H fun σ2 H2 => tb ⟨Pv (i + 1), rt, nx, Pv (i + 1)⟩ σ2 H2) (hd : ∀ σ H, Pv xs.length σ H → nx σ H) : ForK (Itt K a) g tb ⟨nx, rt, bk, ct⟩ σ H := for_tup Pv h0 hl hs hd
theorem fk_range {n : Nat} (Pv : Nat → L2.St → Hp → Prop) (h0 : Pv 0 σ H)
    (hs : ∀ (i : Nat) σ H, i < n → Pv i σ H → g (.int (i : Int)) σ H fun σ2 H2 => tb ⟨Pv (i + 1), rt, nx, Pv (i + 1)⟩ σ2 H2) (hd : ∀ σ H, Pv n σ H → nx σ H) : ForK (Itr 0 n) g tb ⟨nx, rt, bk, ct⟩ σ H :=
  for_range Pv h0 (fun i σ H hi p => by
    have e : (0 : Int) + (i : Int) = (i : Int) := Int.zero_add _
    rw [e]
    exact hs i σ H hi p) hd
theorem fk_range2 {lo : Int} {n : Nat} (Pv : Nat → L2.St → Hp → Prop) (h0 : Pv 0 σ H)
    (hs : ∀ (i : Nat) σ H, i < n → Pv i σ H → g (.int (lo + (i : Int))) σ H fun σ2 H2 => tb ⟨Pv (i + 1), rt, nx, Pv (i + 1)⟩ σ2 H2) (hd : ∀ σ H, Pv n σ H → nx σ H) : ForK (Itr lo n) g tb ⟨nx, rt, bk, ct⟩ σ H :=
  for_range Pv h0 hs hd
theorem fk_enum (Pv : Nat → L2.St → Hp → Prop) (h0 : Pv 0 σ H) (hl : ∀ i σ H, i ≤ xs.length → Pv i σ H → SqL K H a xs)
    (hs : ∀ (i : Nat) x T σ H, xs[i]? = some x → H T = none → Pv i σ H → g (.ref T) σ (upd H T (.tup [.int (i : Nat), x])) fun σ2 H2 => tb ⟨Pv (i + 1), rt, nx, Pv (i + 1)⟩ σ2 H2) (hd : ∀ σ H, Pv xs.length σ H → nx σ H) : ForK (Ite K a) g tb ⟨nx, rt, bk, ct⟩ σ H := by
  refine ⟨fun i m σ H => m = xs.length - i ∧ i ≤ xs.length ∧ Pv i σ H, ⟨xs.length, by simp, Nat.zero_le _, h0⟩, ?_⟩
  rintro i m σ H ⟨rfl, hi, p⟩
  have q := hl i σ H hi p
  by_cases hlt : i < xs.length
  · refine .inr ⟨⟨xs, xs[i], q, by simp [hlt]⟩, Pv (i + 1), fun σ' H' p' => ⟨xs.length - (i + 1), by omega, rfl, hlt, p'⟩, fun x H' y => ?_⟩
    obtain ⟨T, z, rfl, hT, rfl, y⟩ := y
    exact hs i z T σ _ (y xs q) hT p
  · have e : i = xs.length := by omega
    subst e
    exact .inl ⟨⟨xs, q, Nat.le_refl _⟩, hd σ H p⟩
/-! ### comprehensions -/
def LcK (J : It) (g : TG) (tt : TT) (te : TE) (vs : List Nat) (σ : L2.St) (H1 : Hp) (Q : VK) : Prop := ∀ D, H1 D = none → ∃ W : Nat → Nat → Hp → Prop, (∃ m, W 0 m (upd H1 D (.lst []))) ∧ ∀ i m H, W i m H →
  (J.stop i H ∧ Q (.ref D) H) ∨ (J.go i H ∧ ∃ Nx : Hp → Prop, (∀ H', Nx H' → ∃ m', m' < m ∧ W (i + 1) m' H') ∧ ∀ x H', J.yld i H x H' → g x (wipe σ vs) H' fun σ2 H2 => wipe σ2 vs = wipe σ vs ∧ tt σ2 H2 fun b H3 =>
    if b = true then te σ2 H3 fun y H4 => ∃ acc, H4 D = some (.lst acc) ∧ acc.length < sizeLine ∧ Nx (upd H4 D (.lst (acc ++ [y]))) else Nx H3)
variable {tt : TT} {te : TE} {vs : List Nat} {Q : VK}
theorem rd_lc {wi : TI} (h : wi σ H fun J H1 => LcK J g tt te vs σ H1 Q) : tLc wi g tt te vs σ H Q := h
/-- what stands in the new list behind n turns -/
theorem filter_take_succ {ρ : Type} {rows : List ρ} {i : Nat} {r : ρ} (f : ρ → Bool) (h : rows[i]? = some r) : (rows.take (i + 1)).filter f = (rows.take i).filter f ++ (if f r then [r] else []) := by
  rw [List.take_add_one, h, List.filter_append]
  congr 1
  simp [List.filter]
  split <;> simp_all
theorem small_len {ρ α : Type} {rows : List ρ} {n : Nat} (f : ρ → Bool) (v : ρ → α) (h : rows.length ≤ n) (i : Nat) : (((rows.take i).filter f).map v).length ≤ n := by
  rw [List.length_map]
  have h1 := List.length_filter_le f (rows.take i)
  have h2 : (rows.take i).length ≤ rows.length := by rw [List.length_take]; omega
  omega
theorem lcRows {ρ : Type} {rows : List ρ} {J : It} {n : Nat} (hn : n = rows.length) (hz : n ≤ 100000) (f : ρ → Bool) (v : ρ → V)
    (hst : ∀ H', Same H H' → J.stop n H') (hgo : ∀ i H', Same H H' → i < n → J.go i H')
    (turn : ∀ i r H1, rows[i]? = some r → Same H H1 → ∀ x H2, J.yld i H1 x H2 → ∀ (Done : Hp → Prop) (Kept : VK), (∀ H3, Same H1 H3 → f r = false → Done H3) → (∀ H3, Same H1 H3 → f r = true → Kept (v r) H3) →
      g x (wipe σ vs) H2 fun σ2 H2 => wipe σ2 vs = wipe σ vs ∧ tt σ2 H2 fun b H3 => if b = true then te σ2 H3 Kept else Done H3)
    (q : ∀ D H', H D = none → Same H H' → H' D = some (.lst ((rows.filter f).map v)) → Q (.ref D) H') : LcK J g tt te vs σ H Q := by
  intro D hD
  refine ⟨fun i m H' => m = n - i ∧ i ≤ n ∧ Same H H' ∧ H' D = some (.lst (((rows.take i).filter f).map v)), ⟨n, by simp, Nat.zero_le _, same_new hD, upd_same⟩, ?_⟩
  rintro i m H1 ⟨rfl, hi, s1, h1⟩
  by_cases hlt : i < n
  · refine .inr ⟨hgo i H1 s1 hlt, fun H' => i + 1 ≤ n ∧ Same H H' ∧ H' D = some (.lst (((rows.take (i + 1)).filter f).map v)), fun H' p' => ⟨n - (i + 1), by omega, rfl, p'⟩, fun x H2 y => ?_⟩
    have hr : i < rows.length := by omega
    refine turn i rows[i] H1 (List.getElem?_eq_getElem hr) s1 x H2 y _ _ (fun H3 s3 hf => ?_) (fun H3 s3 hf => ?_)
    · refine ⟨hlt, s1.trans s3, ?_⟩
      rw [filter_take_succ f (List.getElem?_eq_getElem hr), hf]
      simp only [Bool.false_eq_true, if_false, List.append_nil]
      exact s3 _ _ h1
    · refine ⟨_, s3 _ _ h1, ?_, hlt, same_mut (s1.trans s3) hD, ?_⟩
      · have := small_len (rows := rows) (n := n) f v (by omega) i
        rw [sizeLine_eq]
        omega
      · rw [filter_take_succ f (List.getElem?_eq_getElem hr), hf]
        simp only [if_true, List.map_append, List.map_cons, List.map_nil]
        exact upd_same
  · have e : i = n := by omega
    subst e
    refine .inl ⟨hst H1 s1, q D H1 hD s1 ?_⟩
    rw [h1, hn, List.take_length]
/-- over a list that stands -/
theorem lcL {ρ : Type} {rows : List ρ} (hn : xs.length = rows.length) (hz : xs.length ≤ 100000) (hx : SqL K H a xs) (f : ρ → Bool) (v : ρ → V)
    (turn : ∀ (i : Nat) x r H1, xs[i]? = some x → rows[i]? = some r → Same H H1 → ∀ (Done : Hp → Prop) (Kept : VK), (∀ H3, Same H1 H3 → f r = false → Done H3) → (∀ H3, Same H1 H3 → f r = true → Kept (v r) H3) →
      g x (wipe σ vs) H1 fun σ2 H2 => wipe σ2 vs = wipe σ vs ∧ tt σ2 H2 fun b H3 => if b = true then te σ2 H3 Kept else Done H3)
    (q : ∀ D H', H D = none → Same H H' → H' D = some (.lst ((rows.filter f).map v)) → Q (.ref D) H') : LcK (Itl K a) g tt te vs σ H Q := by
  refine lcRows hn hz f v (fun H' s => ⟨xs, s.seq hx, Nat.le_refl _⟩) (fun i H' s hi => ⟨xs, xs[i], s.seq hx, by simp [hi]⟩) (fun i r H1 hr s1 x H2 y Done Kept hd hk => ?_) q
  obtain ⟨rfl, y⟩ := y
  exact turn i x r _ (y xs (s1.seq hx)) hr s1 Done Kept hd hk
theorem lcT {ρ : Type} {rows : List ρ} (hn : xs.length = rows.length) (hz : xs.length ≤ 100000) (hx : SqT K H a xs) (f : ρ → Bool) (v : ρ → V)
    (turn : ∀ (i : Nat) x r H1, xs[i]? = some x → rows[i]? = some r → Same H H1 → ∀ (Done : Hp → Prop) (Kept : VK), (∀ H3, Same H1 H3 → f r = false → Done H3) → (∀ H3, Same H1 H3 → f r = true → Kept (v r) H3) →
      g x (wipe σ vs) H1 fun σ2 H2 => wipe σ2 vs = wipe σ vs ∧ tt σ2 H2 fun b H3 => if b = true then te σ2 H3 Kept else Done H3)
    (q : ∀ D H', H D = none → Same H H' → H' D = some (.lst ((rows.filter f).map v)) → Q (.ref D) H') : LcK (Itt K a) g tt te vs σ H Q := by
  refine lcRows hn hz f v (fun H' s => ⟨xs, sqT_same s hx, Nat.le_refl _⟩) (fun i H' s hi => ⟨xs, xs[i], sqT_same s hx, by simp [hi]⟩) (fun i r H1 hr s1 x H2 y Done Kept hd hk => ?_) q
  obtain ⟨rfl, y⟩ := y
  exact turn i x r _ (y xs (sqT_same s1 hx)) hr s1 Done Kept hd hk
theorem lcR {n : Nat} (hz : n ≤ 100000) (f : Nat → Bool) (v : Nat → V)
    (turn : ∀ (i : Nat) H1, i < n → Same H H1 → ∀ (Done : Hp → Prop) (Kept : VK), (∀ H3, Same H1 H3 → f i = false → Done H3) → (∀ H3, Same H1 H3 → f i = true → Kept (v i) H3) →
      g (.int (i : Int)) (wipe σ vs) H1 fun σ2 H2 => wipe σ2 vs = wipe σ vs ∧ tt σ2 H2 fun b H3 => if b = true then te σ2 H3 Kept else Done H3)
    (q : ∀ D H', H D = none → Same H H' → H' D = some (.lst (((List.range n).filter f).map v)) → Q (.ref D) H') : LcK (Itr 0 n) g tt te vs σ H Q := by
  refine lcRows (rows := List.range n) (by simp) hz f v (fun H' s => Nat.le_refl _) (fun i H' s hi => hi) (fun i r H1 hr s1 x H2 y Done Kept hd hk => ?_) q
  obtain ⟨rfl, rfl⟩ := y
  have hi : i < n := by
    have := (List.getElem?_eq_some_iff.mp hr).1
    simpa using this
  have er : r = i := by
    rw [List.getElem?_range hi] at hr
    exact (Option.some.inj hr).symm
  subst er
  have e : (0 : Int) + (r : Int) = (r : Int) := Int.zero_add _
  rw [e]
  exact turn r _ hi s1 Done Kept hd hk
theorem rd_yes {P : Bool → Hp → Prop} (h : P true H) : tYes σ H P := h
end
section
variable {K : PySem.W.Frag} {H : Hp} {Q : VK}
theorem kit_int_int : PySem.W.kitOne K (.type "int") (.type "int") = some true := kit_ty (by decide +kernel)
theorem kit_int_bool : PySem.W.kitOne K (.type "int") (.type "bool") = some false := kit_ty (by decide +kernel)
theorem kit_int_str : PySem.W.kitOne K (.type "int") (.type "str") = some false := kit_ty (by decide +kernel)
theorem kit_int_list : PySem.W.kitOne K (.type "int") (.type "list") = some false := kit_ty (by decide +kernel)
theorem kit_int_tuple : PySem.W.kitOne K (.type "int") (.type "tuple") = some false := kit_ty (by decide +kernel)
theorem kit_bool_int : PySem.W.kitOne K (.type "bool") (.type "int") = some true := kit_ty (by decide +kernel)
theorem kit_bool_bool : PySem.W.kitOne K (.type "bool") (.type "bool") = some true := kit_ty (by decide +kernel)
theorem kit_bool_str : PySem.W.kitOne K (.type "bool") (.type "str") = some false := kit_ty (by decide +kernel)
theorem kit_bool_list : PySem.W.kitOne K (.type "bool") (.type "list") = some false := kit_ty (by decide +kernel)
theorem kit_bool_tuple : PySem.W.kitOne K (.type "bool") (.type "tuple") = some false := kit_ty (by decide +kernel)
theorem kit_str_int : PySem.W.kitOne K (.type "str") (.type "int") = some false := kit_ty (by decide +kernel)
theorem kit_str_bool : PySem.W.kitOne K (.type "str") (.type "bool") = some false := kit_ty (by decide +kernel)
theorem kit_str_str : PySem.W.kitOne K (.type "str") (.type "str") = some true := kit_ty (by decide +kernel)
theorem kit_str_list : PySem.W.kitOne K (.type "str") (.type "list") = some false := kit_ty (by decide +kernel)
theorem kit_str_tuple : PySem.W.kitOne K (.type "str") (.type "tuple") = some false := kit_ty (by decide +kernel)
theorem kit_list_int : PySem.W.kitOne K (.type "list") (.type "int") = some false := kit_ty (by decide +kernel)
theorem kit_list_bool : PySem.W.kitOne K (.type "list") (.type "bool") = some false := kit_ty (by decide +kernel)
theorem kit_list_str : PySem.W.kitOne K (.type "list") (.type "str") = some false := kit_ty (by decide +kernel)
theorem kit_list_list : PySem.W.kitOne K (.type "list") (.type "list") = some true := kit_ty (by decide +kernel)
theorem kit_list_tuple : PySem.W.kitOne K (.type "list") (.type "tuple") = some false := kit_ty (by decide +kernel)
theorem kit_tuple_int : PySem.W.kitOne K (.type "tuple") (.type "int") = some false := kit_ty (by decide +kernel)
theorem kit_tuple_bool : PySem.W.kitOne K (.type "tuple") (.type "bool") = some false := kit_ty (by decide +kernel)
theorem kit_tuple_str : PySem.W.kitOne K (.type "tuple") (.type "str") = some false := kit_ty (by decide +kernel)
theorem kit_tuple_list : PySem.W.kitOne K (.type "tuple") (.type "list") = some false := kit_ty (by decide +kernel)
theorem kit_tuple_tuple : PySem.W.kitOne K (.type "tuple") (.type "tuple") = some true := kit_ty (by decide +kernel)
theorem kit_NoneType_int : PySem.W.kitOne K (.type "NoneType") (.type "int") = some false := kit_ty (by decide +kernel)
theorem kit_NoneType_bool : PySem.W.kitOne K (.type "NoneType") (.type "bool") = some false := kit_ty (by decide +kernel)
theorem kit_NoneType_str : PySem.W.kitOne K (.type "NoneType") (.type "str") = some false := kit_ty (by decide +kernel)
theorem kit_NoneType_list : PySem.W.kitOne K (.type "NoneType") (.type "list") = some false := kit_ty (by decide +kernel)
theorem kit_NoneType_tuple : PySem.W.kitOne K (.type "NoneType") (.type "tuple") = some false := kit_ty (by decide +kernel)
theorem rd_isi_int_int {i : Int} (q : Q (.bl true) H) : rIsi K [(.int i), .ty "int"] H Q := rd_isi (.ty _) (.base (.int _)) kit_int_int q
theorem rd_isi_int_bool {i : Int} (q : Q (.bl false) H) : rIsi K [(.int i), .ty "bool"] H Q := rd_isi (.ty _) (.base (.int _)) kit_int_bool q
theorem rd_isi_int_str {i : Int} (q : Q (.bl false) H) : rIsi K [(.int i), .ty "str"] H Q := rd_isi (.ty _) (.base (.int _)) kit_int_str q
theorem rd_isi_int_list {i : Int} (q : Q (.bl false) H) : rIsi K [(.int i), .ty "list"] H Q := rd_isi (.ty _) (.base (.int _)) kit_int_list q
theorem rd_isi_int_tuple {i : Int} (q : Q (.bl false) H) : rIsi K [(.int i), .ty "tuple"] H Q := rd_isi (.ty _) (.base (.int _)) kit_int_tuple q
theorem rd_isi_bool_int {i : Bool} (q : Q (.bl true) H) : rIsi K [(.bl i), .ty "int"] H Q := rd_isi (.ty _) (.base (.bl _)) kit_bool_int q
theorem rd_isi_bool_bool {i : Bool} (q : Q (.bl true) H) : rIsi K [(.bl i), .ty "bool"] H Q := rd_isi (.ty _) (.base (.bl _)) kit_bool_bool q
theorem rd_isi_bool_str {i : Bool} (q : Q (.bl false) H) : rIsi K [(.bl i), .ty "str"] H Q := rd_isi (.ty _) (.base (.bl _)) kit_bool_str q
theorem rd_isi_bool_list {i : Bool} (q : Q (.bl false) H) : rIsi K [(.bl i), .ty "list"] H Q := rd_isi (.ty _) (.base (.bl _)) kit_bool_list q
theorem rd_isi_bool_tuple {i : Bool} (q : Q (.bl false) H) : rIsi K [(.bl i), .ty "tuple"] H Q := rd_isi (.ty _) (.base (.bl _)) kit_bool_tuple q
theorem rd_isi_str_int {i : Str} (q : Q (.bl false) H) : rIsi K [(.str i), .ty "int"] H Q := rd_isi (.ty _) (.base (.str _)) kit_str_int q
theorem rd_isi_str_bool {i : Str} (q : Q (.bl false) H) : rIsi K [(.str i), .ty "bool"] H Q := rd_isi (.ty _) (.base (.str _)) kit_str_bool q
theorem rd_isi_str_str {i : Str} (q : Q (.bl true) H) : rIsi K [(.str i), .ty "str"] H Q := rd_isi (.ty _) (.base (.str _)) kit_str_str q
theorem rd_isi_str_list {i : Str} (q : Q (.bl false) H) : rIsi K [(.str i), .ty "list"] H Q := rd_isi (.ty _) (.base (.str _)) kit_str_list q
theorem rd_isi_str_tuple {i : Str} (q : Q (.bl false) H) : rIsi K [(.str i), .ty "tuple"] H Q := rd_isi (.ty _) (.base (.str _)) kit_str_tuple q
theorem rd_isi_list_int {p : Addr} {xs : List V} (e : H p = some (.lst xs)) (q : Q (.bl false) H) : rIsi K [(.ref p), .ty "int"] H Q := rd_isi (.ty _) (.base (.lst e)) kit_list_int q
theorem rd_isi_list_bool {p : Addr} {xs : List V} (e : H p = some (.lst xs)) (q : Q (.bl false) H) : rIsi K [(.ref p), .ty "bool"] H Q := rd_isi (.ty _) (.base (.lst e)) kit_list_bool q
theorem rd_isi_list_str {p : Addr} {xs : List V} (e : H p = some (.lst xs)) (q : Q (.bl false) H) : rIsi K [(.ref p), .ty "str"] H Q := rd_isi (.ty _) (.base (.lst e)) kit_list_str q
theorem rd_isi_list_list {p : Addr} {xs : List V} (e : H p = some (.lst xs)) (q : Q (.bl true) H) : rIsi K [(.ref p), .ty "list"] H Q := rd_isi (.ty _) (.base (.lst e)) kit_list_list q
theorem rd_isi_list_tuple {p : Addr} {xs : List V} (e : H p = some (.lst xs)) (q : Q (.bl false) H) : rIsi K [(.ref p), .ty "tuple"] H Q := rd_isi (.ty _) (.base (.lst e)) kit_list_tuple q
theorem rd_isi_tuple_int {p : Addr} {xs : List V} (e : H p = some (.tup xs)) (q : Q (.bl false) H) : rIsi K [(.ref p), .ty "int"] H Q := rd_isi (.ty _) (.base (.tup e)) kit_tuple_int q
theorem rd_isi_tuple_bool {p : Addr} {xs : List V} (e : H p = some (.tup xs)) (q : Q (.bl false) H) : rIsi K [(.ref p), .ty "bool"] H Q := rd_isi (.ty _) (.base (.tup e)) kit_tuple_bool q
theorem rd_isi_tuple_str {p : Addr} {xs : List V} (e : H p = some (.tup xs)) (q : Q (.bl false) H) : rIsi K [(.ref p), .ty "str"] H Q := rd_isi (.ty _) (.base (.tup e)) kit_tuple_str q
theorem rd_isi_tuple_list {p : Addr} {xs : List V} (e : H p = some (.tup xs)) (q : Q (.bl false) H) : rIsi K [(.ref p), .ty "list"] H Q := rd_isi (.ty _) (.base (.tup e)) kit_tuple_list q
theorem rd_isi_tuple_tuple {p : Addr} {xs : List V} (e : H p = some (.tup xs)) (q : Q (.bl true) H) : rIsi K [(.ref p), .ty "tuple"] H Q := rd_isi (.ty _) (.base (.tup e)) kit_tuple_tuple q
theorem rd_isi_NoneType_int  (q : Q (.bl false) H) : rIsi K [.non, .ty "int"] H Q := rd_isi (.ty _) (.base .non) kit_NoneType_int q
theorem rd_isi_NoneType_bool  (q : Q (.bl false) H) : rIsi K [.non, .ty "bool"] H Q := rd_isi (.ty _) (.base .non) kit_NoneType_bool q
theorem rd_isi_NoneType_str  (q : Q (.bl false) H) : rIsi K [.non, .ty "str"] H Q := rd_isi (.ty _) (.base .non) kit_NoneType_str q
theorem rd_isi_NoneType_list  (q : Q (.bl false) H) : rIsi K [.non, .ty "list"] H Q := rd_isi (.ty _) (.base .non) kit_NoneType_list q
theorem rd_isi_NoneType_tuple  (q : Q (.bl false) H) : rIsi K [.non, .ty "tuple"] H Q := rd_isi (.ty _) (.base .non) kit_NoneType_tuple q
theorem rd_isi_own {C a dx : Addr} {fs : List (Str × V)} (T : TyC K C) (e : H a = some (.ins C dx fs)) (q : Q (.bl true) H) : rIsi K [.ref a, .ref C] H Q := rd_isi (.own _) (.base (T.at e)) kit_self q
end
/-! ### texts by their codes -/
def tx (l : List Nat) : Str := ⟨l.toArray⟩
theorem tx_list (l : List Nat) : (tx l).cps.toList = l := rfl
theorem tx_len (l : List Nat) : (tx l).length = l.length := by simp [tx, Str.length]
theorem tx_app (l m : List Nat) : tx l ++ tx m = tx (l ++ m) := PyProof.Rows.str_of_list (by rw [PyProof.Rows.cps_toList_append]; rfl)
theorem tx_of (z : Str) : z = tx z.cps.toList := PyProof.Rows.str_of_list rfl
theorem tx_inj {l m : List Nat} : tx l = tx m ↔ l = m := ⟨fun h => by have := congrArg (fun z => z.cps.toList) h; exact this, fun h => by rw [h]⟩
def smalls : List Nat := [97, 98, 99, 100, 101, 102, 103, 104, 105, 106, 107, 108, 109, 110, 111, 112, 113, 114, 115, 116, 117, 118, 119, 120, 121, 122]
def capitals : List Nat := [65, 66, 67, 68, 69, 70, 71, 72, 73, 74, 75, 76, 77, 78, 79, 80, 81, 82, 83, 84, 85, 86, 87, 88, 89, 90]
theorem smalls_eq : (Str.ofString "abcdefghijklmnopqrstuvwxyz") = tx smalls := by decide +kernel
theorem capitals_eq : (Str.ofString "ABCDEFGHIJKLMNOPQRSTUVWXYZ") = tx capitals := by decide +kernel
theorem atI_mem {α : Type} {xs : List α} {i : Int} (h0 : 0 ≤ i) (h1 : i < (xs.length : Int)) : ∃ z, atI xs i = some z ∧ z ∈ xs := by
  have e : i.toNat < xs.length := by omega
  refine ⟨xs[i.toNat], ?_, List.getElem_mem e⟩
  unfold atI ixN
  rw [if_pos h0, if_pos h1]
  simp [e]
theorem empty_tx : Str.empty = tx [] := rfl
theorem sg_tx (c : Nat) : (⟨#[c]⟩ : Str) = tx [c] := rfl
section
variable {σ : L2.St} {H : Hp} {te : TE} {ts : List TE} {QS : Str → Hp → Prop} {Q : VK}
def JsK (ts : List TE) (acc : Str) (σ : L2.St) (x : V) (H1 : Hp) (Q : Str → Hp → Prop) : Prop := ∃ y : Str, x = .str y ∧ (acc ++ y).length ≤ sizeLine ∧ tJs ts (acc ++ y) σ H1 Q
theorem rd_jsC {acc : Str} (h : te σ H fun x H1 => JsK ts acc σ x H1 QS) : tJs (te :: ts) acc σ H QS := h
theorem rd_jsN {acc : Str} (h : QS acc H) : tJs [] acc σ H QS := h
theorem rd_JsK {l m : List Nat} (h : l.length + m.length ≤ 100000) (k : tJs ts (tx (l ++ m)) σ H QS) : JsK ts (tx l) σ (.str (tx m)) H QS := by
  have e : (tx (l ++ m)).length = l.length + m.length := by rw [tx_len, List.length_append]
  exact ⟨tx m, rfl, by rw [tx_app, e]; exact sz_of h, by rw [tx_app]; exact k⟩
def FmtK (x : V) (H1 : Hp) (Q : VK) : Prop := (∃ y : Str, x = .str y ∧ y.length ≤ sizeLine ∧ Q (.str y) H1) ∨ ∃ i : Int, x = .int i ∧ i.natAbs.log2 < 1920 ∧ Q (.str (toString i)) H1
theorem rd_fmt (h : te σ H fun x H1 => FmtK x H1 Q) : tFmt te σ H Q := h
theorem rd_fmtS {y : Str} (h : y.length ≤ sizeLine) (k : Q (.str y) H) : FmtK (.str y) H Q := .inl ⟨y, rfl, h, k⟩
theorem rd_fmtT {l : List Nat} (h : l.length ≤ 100000) (k : Q (.str (tx l)) H) : FmtK (.str (tx l)) H Q := .inl ⟨_, rfl, by rw [tx_len]; exact sz_of h, k⟩
theorem rd_addT {l m : List Nat} (hz : l.length + m.length ≤ 100000) (q : Q (.str (tx (l ++ m))) H) : rAddStr (.str (tx l)) (.str (tx m)) H Q := by
  refine rd_addS (by rw [tx_len, tx_len]; exact sz_of hz) ?_
  rw [tx_app]
  exact q
theorem rd_lenTx {l : List Nat} (hz : l.length ≤ 100000) (q : Q (.int (l.length : Nat)) H) : rLenStr [.str (tx l)] H Q := by
  refine rd_lenS (by rw [tx_len]; exact sz_of hz) ?_
  rw [tx_len]
  exact q
theorem eq_tx {l m : List Nat} : decide (V.str (tx l) = V.str (tx m)) = decide (l = m) := by
  have e : (V.str (tx l) = V.str (tx m)) ↔ l = m := ⟨fun h => tx_inj.mp (by injection h), fun h => by rw [h]⟩
  simp only [e]
theorem rd_eqTx {l m : List Nat} (q : Q (.bl (decide (l = m))) H) : rEq (.str (tx l)) (.str (tx m)) H Q := rd_eq rfl (by rw [eq_tx]; exact q)
theorem rd_neTx {l m : List Nat} (q : Q (.bl (!decide (l = m))) H) : rNe (.str (tx l)) (.str (tx m)) H Q := rd_ne rfl (by rw [eq_tx]; exact q)
theorem rd_inTx {c : Nat} {l : List Nat} (q : Q (.bl (decide (c ∈ l))) H) : rInSign (.str (tx [c])) (.str (tx l)) H Q := rd_inSign q
theorem rd_notInTx {c : Nat} {l : List Nat} (q : Q (.bl (!decide (c ∈ l))) H) : rNotInSign (.str (tx [c])) (.str (tx l)) H Q := rd_notInSign q
theorem atI_at {α : Type} {xs : List α} {i : Nat} {c : α} (h : xs[i]? = some c) : atI xs (i : Int) = some c := by
  have e := (List.getElem?_eq_some_iff.mp h).1
  unfold atI ixN
  rw [if_pos (by omega), if_pos (by omega)]
  simpa using h
theorem rd_ixTx {l : List Nat} {i : Nat} {c : Nat} (hz : l.length ≤ 100000) (h : l[i]? = some c) (q : Q (.str (tx [c])) H) : rIxS (.str (tx l)) (.int (i : Nat)) H Q := rd_ixS (by rw [tx_len]; exact sz_of hz) (atI_at h) q
theorem sIx_nat {n d i : Nat} (h : i ≤ n) : HT.sIx n d (some (i : Int)) = i := by
  rw [HT.sIx_nat]
  omega
theorem cutS_tx {l : List Nat} {i j : Nat} (hi : i ≤ l.length) (hj : j ≤ l.length) : cutS (tx l) (some (i : Int)) (some (j : Int)) = tx ((l.drop i).take (j - i)) := by
  unfold cutS
  rw [tx_len, sIx_nat hi, sIx_nat hj] <;> rfl
theorem rd_cutTx {l : List Nat} {i j : Nat} (hz : l.length ≤ 100000) (hi : i ≤ l.length) (hj : j ≤ l.length) (q : Q (.str (tx ((l.drop i).take (j - i)))) H) : rSlS (.str (tx l)) (some (i : Int)) (some (j : Int)) H Q := by
  refine rd_slS (by rw [tx_len]; exact sz_of hz) ?_
  rw [cutS_tx hi hj]
  exact q
end
section
variable {X : Cx} {K : PySem.W.Frag}
theorem ix_listK (h : X.K = K := by rfl) : IxR X (rIxL K) := h ▸ ix_list
theorem ix_tupK (h : X.K = K := by rfl) : IxR X (rIxT K) := h ▸ ix_tup
theorem op_inSeqK (h : X.K = K := by rfl) : OpR X (compareOp .In) (rIn K false) := h ▸ op_in_seq
theorem op_notInSeqK (h : X.K = K := by rfl) : OpR X (compareOp .NotIn) (rIn K true) := h ▸ op_notIn_seq
theorem op_eqDK (hu : X.A.units + 64 < cLine) (h : X.K = K := by rfl) : OpR X (compareOp .Eq) (rEqD K) := h ▸ op_eqD hu
theorem op_neDK (hu : X.A.units + 64 < cLine) (h : X.K = K := by rfl) : OpR X (compareOp .NotEq) (rNeD K) := h ▸ op_neD hu
theorem call_lenSeqK (h : X.K = K := by rfl) : CallR X (.builtin "len") (rLenSeq K) := h ▸ call_lenSeq
theorem call_listOfK (h : X.K = K := by rfl) : CallR X (.type "list") (rListOf K) := h ▸ call_listOf
theorem call_isi_K (h : X.K = K := by rfl) : CallR X (.builtin "isinstance") (rIsi K) := h ▸ call_isi
theorem pe_fldK {e : Expr} {f : Str} {pos : Pos} {ta : TE} (he : PE X e ta) (hb : attributeBase e f X.env (eval e X.env) = eval e X.env) (h : X.K = K := by rfl) : PE X (.Attribute e f pos) (tFld K ta f) := h ▸ pe_fld he hb
theorem pe_cvalK {e : Expr} {f : Str} {pos : Pos} {ta : TE} (he : PE X e ta) (hb : attributeBase e f X.env (eval e X.env) = eval e X.env := by rfl) (h : X.K = K := by rfl) : PE X (.Attribute e f pos) (ClX.tCVal K ta f) := h ▸ ClX.pe_cval he hb
end
/-! ### lists of texts -/
def wd (l : List Nat) : V := .str (tx l)
def wdD (l : List Nat) : PyData := .str (tx l)
def okT (l : List Nat) : Prop := ∀ c ∈ l, c < 128
theorem okT_str {l : List Nat} (h : okT l) : PyData.strOk (tx l) = true := by
  unfold PyData.strOk tx
  rw [Array.all_eq_true']
  intro x hx
  have := h x (by simpa using hx)
  simp
  omega
theorem wd_flat (ws : List (List Nat)) : (ws.map wd).all flatV = true := by
  rw [List.all_map, List.all_eq_true]
  intro x _
  rfl
theorem inV_wd (l : List Nat) (ws : List (List Nat)) : inV (.str (tx l)) (ws.map wd) = decide (l ∈ ws) := by
  unfold inV
  rw [List.any_map]
  induction ws with
  | nil => simp
  | cons m ws ih =>
    rw [List.any_cons, ih]
    show ((tx m == tx l) || decide (l ∈ ws)) = _
    by_cases h : m = l
    · subst h
      simp
    · have h1 : ¬ tx m = tx l := fun z => h (tx_inj.mp z)
      have h2 : ¬ l = m := fun z => h z.symm
      simp [h1, h2]
section
variable {K : PySem.W.Frag} {H : Hp} {Q : VK} {p : Addr} {l : List Nat} {ws vs : List (List Nat)}
theorem rd_inWL (h : SqL K H p (ws.map wd)) (q : Q (.bl (decide (l ∈ ws))) H) : rIn K false (.str (tx l)) (.ref p) H Q := rd_inSeqL h rfl (wd_flat ws) (by rw [inV_wd]; exact q)
theorem rd_inWT (h : SqT K H p (ws.map wd)) (q : Q (.bl (decide (l ∈ ws))) H) : rIn K false (.str (tx l)) (.ref p) H Q := rd_inSeqT h rfl (wd_flat ws) (by rw [inV_wd]; exact q)
theorem rd_notInWL (h : SqL K H p (ws.map wd)) (q : Q (.bl (!decide (l ∈ ws))) H) : rIn K true (.str (tx l)) (.ref p) H Q := rd_inSeqL h rfl (wd_flat ws) (by rw [inV_wd]; exact q)
theorem rd_notInWT (h : SqT K H p (ws.map wd)) (q : Q (.bl (!decide (l ∈ ws))) H) : rIn K true (.str (tx l)) (.ref p) H Q := rd_inSeqT h rfl (wd_flat ws) (by rw [inV_wd]; exact q)
theorem joinL_len (sep : List Nat) : ∀ ws : List (List Nat), (TL.joinL sep ws).length ≤ (ws.map (·.length)).sum + ws.length * sep.length
  | [] => by simp [TL.joinL]
  | [x] => by simp [TL.joinL]
  | x :: y :: ws => by
    have h := joinL_len sep (y :: ws)
    have e : TL.joinL sep (x :: y :: ws) = x ++ (sep ++ TL.joinL sep (y :: ws)) := by simp [TL.joinL]
    rw [e, List.length_append, List.length_append, List.map_cons, List.sum_cons, List.length_cons, Nat.succ_mul]
    omega
theorem wd_strs (ws : List (List Nat)) : ws.map wd = (ws.map tx).map V.str := by rw [List.map_map]; rfl
/-- what sep.join(..) asks -/
def JoinK (K : PySem.W.Frag) (x : V) (xs : List V) (H : Hp) (Q : VK) : Prop := ∃ a p, ∃ ys : List Str, x = .str a ∧ xs = [.ref p] ∧ (SqL K H p (ys.map V.str) ∨ SqT K H p (ys.map V.str)) ∧ (ys.map (·.length)).sum + ys.length * a.length ≤ 16777216 ∧ Q (.str (Txt.join a ys)) H
theorem rd_joinW {sep : List Nat} (h : SqL K H p (ws.map wd) ∨ SqT K H p (ws.map wd)) (hb : (ws.map (·.length)).sum + ws.length * sep.length ≤ 100000) (q : Q (.str (tx (TL.joinL sep ws))) H) : JoinK K (.str (tx sep)) [.ref p] H Q := by
  refine ⟨tx sep, p, ws.map tx, rfl, rfl, by rw [← wd_strs]; exact h, ?_, ?_⟩
  · have e : (ws.map tx).map (·.length) = ws.map (·.length) := SX.lens ws
    rw [e, List.length_map, tx_len]
    omega
  · have e : Txt.join (tx sep) (ws.map tx) = tx (TL.joinL sep ws) := SX.join_S sep ws
    rw [e]
    exact q
theorem wd_dp : ∀ ws : List (List Nat), DpAll K H (ws.map wd) (ws.map wdD)
  | [] => .nil
  | _ :: ws => .cons (.str _) (wd_dp ws)
theorem wdD_lay : ∀ ws : List (List Nat), (∀ w ∈ ws, okT w) → PyData.canLayAll0 (ws.map wdD) = true
  | [], _ => by simp [PyData.canLayAll0]
  | z :: zs, h => by simp [PyData.canLayAll0, wdD, PyData.canLay0, okT_str (h z (by simp)), wdD_lay zs fun p hp => h p (by simp [hp])]
theorem wdD_depth : ∀ ws : List (List Nat), PyData.depthAll (ws.map wdD) = 0
  | [] => by simp [PyData.depthAll]
  | z :: zs => by simp [PyData.depthAll, wdD, PyData.depth, wdD_depth zs]
theorem wdL_shaped (h : ∀ w ∈ ws, okT w) : SeqAt.shaped (.list (ws.map wdD)) = true := by
  show (PyData.canLay0 (.list (ws.map wdD)) && decide (PyData.depth (.list (ws.map wdD)) ≤ 64)) = true
  rw [Bool.and_eq_true]
  exact ⟨by simp only [PyData.canLay0]; exact wdD_lay ws h, decide_eq_true (by simp only [PyData.depth, wdD_depth]; omega)⟩
theorem wdT_shaped (h : ∀ w ∈ ws, okT w) : SeqAt.shaped (.tuple (ws.map wdD)) = true := by
  show (PyData.canLay0 (.tuple (ws.map wdD)) && decide (PyData.depth (.tuple (ws.map wdD)) ≤ 64)) = true
  rw [Bool.and_eq_true]
  exact ⟨by simp only [PyData.canLay0]; exact wdD_lay ws h, decide_eq_true (by simp only [PyData.depth, wdD_depth]; omega)⟩
theorem wdD_eqv : ∀ ws vs : List (List Nat), PyData.eqvAll (ws.map wdD) (vs.map wdD) = decide (ws = vs)
  | [], [] => by simp [PyData.eqvAll]
  | [], _ :: _ => by simp [PyData.eqvAll]
  | _ :: _, [] => by simp [PyData.eqvAll]
  | w :: ws, v :: vs => by
    have e : PyData.eqvAll ((w :: ws).map wdD) ((v :: vs).map wdD) = ((tx w == tx v) && PyData.eqvAll (ws.map wdD) (vs.map wdD)) := by simp only [List.map_cons, wdD, PyData.eqvAll, PyData.eqv]
    rw [e, wdD_eqv ws vs]
    by_cases h : w = v
    · subst h
      simp
    · have h1 : ¬ tx w = tx v := fun z => h (tx_inj.mp z)
      simp [h, h1]
theorem rd_eqWL {r : Addr} (h : SqL K H p (ws.map wd)) (h2 : SqL K H r (vs.map wd)) (o1 : ∀ w ∈ ws, okT w) (o2 : ∀ w ∈ vs, okT w) (q : Q (.bl (decide (ws = vs))) H) : rEqD K (.ref p) (.ref r) H Q :=
  rd_eqD (.lst h (wd_dp ws)) (.lst h2 (wd_dp vs)) (wdL_shaped o1) (wdL_shaped o2) (by rw [show PyData.eqv (.list (ws.map wdD)) (.list (vs.map wdD)) = PyData.eqvAll (ws.map wdD) (vs.map wdD) by simp only [PyData.eqv], wdD_eqv]; exact q)
theorem rd_neWL {r : Addr} (h : SqL K H p (ws.map wd)) (h2 : SqL K H r (vs.map wd)) (o1 : ∀ w ∈ ws, okT w) (o2 : ∀ w ∈ vs, okT w) (q : Q (.bl (!decide (ws = vs))) H) : rNeD K (.ref p) (.ref r) H Q :=
  rd_neD (.lst h (wd_dp ws)) (.lst h2 (wd_dp vs)) (wdL_shaped o1) (wdL_shaped o2) (by rw [show PyData.eqv (.list (ws.map wdD)) (.list (vs.map wdD)) = PyData.eqvAll (ws.map wdD) (vs.map wdD) by simp only [PyData.eqv], wdD_eqv]; exact q)
theorem rd_eqWT {r : Addr} (h : SqT K H p (ws.map wd)) (h2 : SqT K H r (vs.map wd)) (o1 : ∀ w ∈ ws, okT w) (o2 : ∀ w ∈ vs, okT w) (q : Q (.bl (decide (ws = vs))) H) : rEqD K (.ref p) (.ref r) H Q :=
  rd_eqD (.tup h (wd_dp ws)) (.tup h2 (wd_dp vs)) (wdT_shaped o1) (wdT_shaped o2) (by rw [show PyData.eqv (.tuple (ws.map wdD)) (.tuple (vs.map wdD)) = PyData.eqvAll (ws.map wdD) (vs.map wdD) by simp only [PyData.eqv], wdD_eqv]; exact q)
end
section
variable {X : Cx} {o e : Expr} {to te : TE} {K : PySem.W.Frag}
theorem pe_joinR {apos pos : Pos} (ho : PE X o to) (he : PE X e te) (h : X.K = K := by rfl) (hs : starEach [e] X.env = [(false, eval e X.env)] := by rfl) (hbase : attributeBase o "join" X.env (eval o X.env) = eval o X.env := by rfl) (hline : (apos.endLine == pos.line) = true := by rfl) :
    PE X (.Call (.Attribute o "join" apos) [e] [] pos) (tM1 (JoinK K) to te) := h ▸ pe_join ho he hs hbase hline
def SplitK (x : V) (xs : List V) (H : Hp) (Q : VK) : Prop := ∃ a b, x = .str a ∧ xs = [.str b] ∧ (b.length == 0) = false ∧ a.length + 2 ≤ sizeLine ∧ rNewStrs (Txt.split a b) H Q
theorem pe_splitR {apos pos : Pos} (ho : PE X o to) (he : PE X e te) (hs : starEach [e] X.env = [(false, eval e X.env)] := by rfl) (hbase : attributeBase o "split" X.env (eval o X.env) = eval o X.env := by rfl) (hline : (apos.endLine == pos.line) = true := by rfl) :
    PE X (.Call (.Attribute o "split" apos) [e] [] pos) (tM1 SplitK to te) := pe_split ho he hs hbase hline
end
theorem units65 {k : Nat} {A : Around} (r : Room k A) : A.units + 65 < cLine := by have := r.un; omega
end Hk

/-! The frozen part F of the heap H: data that is never written again; what a call leaves: Grow. -/
namespace Hk
open PySem PySem.Spec PyProof.Rows L2

/-- behind a call: the frozen part and the heap have grown; what was tracked and not frozen (the callers' own) is kept, but for S -/
structure Grow (S : List Addr) (F H F' H' : Hp) : Prop where
  ff : Same F F'
  fh : Same F' H'
  hh : ∀ c o, c ∉ S → H c = some o → H' c = some o
  own : ∀ c, F c = none → H c ≠ none → F' c = none ∧ H' c ≠ none
section
variable {S : List Addr} {F H F1 H1 F2 H2 : Hp} {p : Addr} {o : HO}
theorem some_ne {α : Type} {x : Option α} {y : α} (h : x = some y) : x ≠ none := by rw [h]; intro z; cases z
theorem same_nn (e : Same H H1) (h : H p ≠ none) : H1 p ≠ none := by
  cases q : H p with
  | none => exact absurd q h
  | some o => rw [e _ _ q]; intro z; cases z
theorem upd_nn {q : Addr} (h : H p ≠ none) : upd H q o p ≠ none := by
  by_cases e : p = q
  · rw [e, upd_same]; intro z; cases z
  · rw [upd_ne e]; exact h
theorem Grow.refl (h : Same F H) : Grow S F H F H := ⟨Same.refl _, h, fun _ _ _ e => e, fun _ a b => ⟨a, b⟩⟩
theorem Grow.trans (a : Grow S F H F1 H1) (b : Grow S F1 H1 F2 H2) : Grow S F H F2 H2 :=
  ⟨a.ff.trans b.ff, b.fh, fun c o n e => b.hh c o n (a.hh c o n e), fun c x y => let z := a.own c x y; b.own c z.1 z.2⟩
theorem Grow.weak (a : Grow [] F H F1 H1) : Grow S F H F1 H1 := ⟨a.ff, a.fh, fun c o _ e => a.hh c o (by simp) e, a.own⟩
theorem Grow.step {S' : List Addr} (a : Grow S F H F1 H1) (b : Grow [] F1 H1 F2 H2) : Grow S F H F2 H2 := a.trans b.weak
theorem Grow.same (a : Grow [] F H F1 H1) : Same H H1 := fun c o e => a.hh c o (by simp) e
/-- a new thing, frozen -/
theorem Grow.new (a : Grow S F H F1 H1) (n : H1 p = none) : Grow S F H (upd F1 p o) (upd H1 p o) := by
  refine ⟨a.ff.trans (same_new (a.fh.free n)), fun c u e => ?_, fun c u h e => upd_new n (a.hh c u h e), fun c x y => ?_⟩
  · by_cases q : c = p
    · subst q; rw [upd_same] at e ⊢; exact e
    · rw [upd_ne q] at e ⊢; exact a.fh _ _ e
  · have z := a.own c x y
    have q : c ≠ p := fun q => z.2 (q ▸ n)
    exact ⟨upd_oldN q z.1, upd_nn z.2⟩
/-- a new thing that will be written -/
theorem Grow.newO (a : Grow S F H F1 H1) (n : H1 p = none) : Grow S F H F1 (upd H1 p o) :=
  ⟨a.ff, a.fh.trans (same_new n), fun c u h e => upd_new n (a.hh c u h e), fun c x y => let z := a.own c x y; ⟨z.1, upd_nn z.2⟩⟩
/-- a store to one's own -/
theorem Grow.mut (a : Grow S F H F1 H1) (f : F1 p = none) (n : p ∈ S ∨ H p = none) : Grow S F H F1 (upd H1 p o) := by
  refine ⟨a.ff, same_mut a.fh f, fun c u h e => ?_, fun c x y => let z := a.own c x y; ⟨z.1, upd_nn z.2⟩⟩
  have q : c ≠ p := by
    rcases n with n | n
    · exact fun q => h (q ▸ n)
    · exact ne_of_none e n
  exact upd_old q (a.hh c u h e)
/-- one's own thing is frozen -/
theorem Grow.frz (a : Grow S F H F1 H1) (h : H1 p = some o) (f : F1 p = none) (n : H p = none) : Grow S F H (upd F1 p o) H1 := by
  refine ⟨a.ff.trans (same_new f), fun c u e => ?_, a.hh, fun c x y => ?_⟩
  · by_cases q : c = p
    · subst q; rw [upd_same] at e; rw [← e]; exact h
    · rw [upd_ne q] at e; exact a.fh _ _ e
  · have z := a.own c x y
    exact ⟨upd_oldN (fun q => y (q ▸ n)) z.1, z.2⟩
theorem Grow.free (a : Grow S F H F1 H1) (h : H1 p = none) : H p = none := by
  cases e : H p with
  | none => rfl
  | some u =>
    cases q : F p with
    | some v =>
      have := a.fh _ _ (a.ff _ _ q)
      rw [h] at this; cases this
    | none => exact absurd h (a.own p q (some_ne e)).2
/-- one's own thing: at p stands o, not frozen -/
structure Hold (F H : Hp) (p : Addr) (o : HO) : Prop where
  f : F p = none
  h : H p = some o
theorem Hold.go (h : Hold F H p o) (a : Grow S F H F1 H1) (n : p ∉ S) : Hold F1 H1 p o := ⟨(a.own p h.f (some_ne h.h)).1, a.hh p o n h.h⟩
theorem Hold.go0 (h : Hold F H p o) (a : Grow [] F H F1 H1) : Hold F1 H1 p o := h.go a (by simp)
theorem Hold.new (fh : Same F H) (n : H p = none) : Hold F (upd H p o) p o := ⟨fh.free n, upd_same⟩
theorem Hold.put {u : HO} (h : Hold F H p o) : Hold F (upd H p u) p u := ⟨h.f, upd_same⟩
theorem Hold.other {q : Addr} {u : HO} (h : Hold F H p o) (n : p ≠ q) : Hold F (upd H q u) p o := ⟨h.f, upd_old n h.h⟩
theorem Hold.newF {q : Addr} {u : HO} (h : Hold F H p o) (n : H q = none) : Hold (upd F q u) (upd H q u) p o := ⟨upd_oldN (ne_new n h.h) h.f, upd_new n h.h⟩
theorem Hold.ne {q : Addr} {u : HO} (h : Hold F H p o) (e : F q = some u) : p ≠ q := fun z => by rw [← z, h.f] at e; cases e
end

/-! ### data -/
section
variable {K : PySem.W.Frag} {H H1 : Hp}
mutual
theorem dp_mono (e : Same H H1) : ∀ (d : PyData) (v : V), Dp K H v d → Dp K H1 v d
  | .none, _, h => by cases h; exact .non
  | .bool b, _, h => by cases h; exact .bl b
  | .int i, _, h => by cases h; exact .int i
  | .str x, _, h => by cases h; exact .str x
  | .list ds, _, h => by
    cases h with
    | lst hs ha => exact .lst (e.seq hs) (dpAll_mono e ds _ ha)
  | .tuple ds, _, h => by
    cases h with
    | tup hs ha => exact .tup (sqT_same e hs) (dpAll_mono e ds _ ha)
  | .dict _, _, h => by cases h
theorem dpAll_mono (e : Same H H1) : ∀ (ds : List PyData) (vs : List V), DpAll K H vs ds → DpAll K H1 vs ds
  | [], _, h => by cases h; exact .nil
  | d :: ds, _, h => by
    cases h with
    | cons hd ha => exact .cons (dp_mono e d _ hd) (dpAll_mono e ds _ ha)
end
theorem _root_.L2.Dp.mono {d : PyData} {v : V} (h : Dp K H v d) (e : Same H H1) : Dp K H1 v d := dp_mono e d v h
theorem _root_.L2.DpAll.mono {ds : List PyData} {vs : List V} (h : DpAll K H vs ds) (e : Same H H1) : DpAll K H1 vs ds := dpAll_mono e ds vs h
theorem _root_.L2.DpAll.length {vs : List V} {ds : List PyData} (h : DpAll K H vs ds) : vs.length = ds.length := by
  induction vs generalizing ds with
  | nil => cases h; rfl
  | cons v vs ih =>
    cases h with
    | cons _ ha => simp [ih ha]
theorem _root_.L2.DpAll.get {vs : List V} {ds : List PyData} (h : DpAll K H vs ds) {i : Nat} {v : V} (e : vs[i]? = some v) : ∃ d, ds[i]? = some d ∧ Dp K H v d := by
  induction vs generalizing ds i with
  | nil => simp at e
  | cons v' vs ih =>
    cases h with
    | cons hd ha =>
      cases i with
      | zero => simp at e; subst e; exact ⟨_, rfl, hd⟩
      | succ i => simpa using ih ha (by simpa using e)
theorem _root_.L2.DpAll.app {vs ws : List V} {ds es : List PyData} (h : DpAll K H vs ds) (h2 : DpAll K H ws es) : DpAll K H (vs ++ ws) (ds ++ es) := by
  induction vs generalizing ds with
  | nil => cases h; exact h2
  | cons v vs ih =>
    cases h with
    | cons hd ha => exact .cons hd (ih ha)
theorem _root_.L2.DpAll.one {v : V} {d : PyData} (h : Dp K H v d) : DpAll K H [v] [d] := .cons h .nil
theorem _root_.L2.DpAll.snoc {vs : List V} {ds : List PyData} {v : V} {d : PyData} (h : DpAll K H vs ds) (h2 : Dp K H v d) : DpAll K H (vs ++ [v]) (ds ++ [d]) := h.app (.one h2)
theorem _root_.L2.Dp.list_inv {v : V} {ds : List PyData} (h : Dp K H v (.list ds)) : ∃ a xs, v = .ref a ∧ SqL K H a xs ∧ DpAll K H xs ds := by
  cases h with
  | lst hs ha => exact ⟨_, _, rfl, hs, ha⟩
theorem _root_.L2.Dp.tup_inv {v : V} {ds : List PyData} (h : Dp K H v (.tuple ds)) : ∃ a xs, v = .ref a ∧ SqT K H a xs ∧ DpAll K H xs ds := by
  cases h with
  | tup hs ha => exact ⟨_, _, rfl, hs, ha⟩
theorem _root_.L2.Dp.str_inv {v : V} {x : Str} (h : Dp K H v (.str x)) : v = .str x := by cases h; rfl
theorem _root_.L2.Dp.int_inv {v : V} {x : Int} (h : Dp K H v (.int x)) : v = .int x := by cases h; rfl
/-- texts, ints, bools, none: the value itself -/
def flD : PyData → Option V
  | .none => some .non
  | .bool b => some (.bl b)
  | .int i => some (.int i)
  | .str x => some (.str x)
  | _ => none
def flAll : List PyData → Option (List V)
  | [] => some []
  | d :: ds => match flD d, flAll ds with
    | some v, some vs => some (v :: vs)
    | _, _ => none
theorem flD_inv {d : PyData} {v w : V} (e : flD d = some w) (h : Dp K H v d) : v = w := by
  cases h <;> simp [flD] at e <;> exact e
theorem flD_mk {d : PyData} {w : V} (e : flD d = some w) : Dp K H w d := by
  cases d <;> simp [flD] at e <;> subst e
  · exact .non
  · exact .bl _
  · exact .int _
  · exact .str _
theorem flAll_inv : ∀ {ds : List PyData} {vs ws : List V}, flAll ds = some ws → DpAll K H vs ds → vs = ws
  | [], _, _, e, h => by cases h; simp [flAll] at e; exact e.symm ▸ rfl
  | d :: ds, _, _, e, h => by
    cases h with
    | cons hd ha =>
      unfold flAll at e
      split at e
      · rename_i v vs e1 e2
        cases e
        rw [flD_inv e1 hd, flAll_inv e2 ha]
      · cases e
theorem flAll_mk : ∀ {ds : List PyData} {ws : List V}, flAll ds = some ws → DpAll K H ws ds
  | [], _, e => by simp [flAll] at e; subst e; exact .nil
  | d :: ds, _, e => by
    unfold flAll at e
    split at e
    · rename_i v vs e1 e2
      cases e
      exact .cons (flD_mk e1) (flAll_mk e2)
    · cases e
/-- a tuple of scalars: its items -/
theorem _root_.L2.Dp.tup_flat {v : V} {ds : List PyData} {ws : List V} (h : Dp K H v (.tuple ds)) (e : flAll ds = some ws := by rfl) : ∃ a, v = .ref a ∧ SqT K H a ws := by
  obtain ⟨a, xs, rfl, hs, ha⟩ := h.tup_inv
  rw [flAll_inv e ha] at hs
  exact ⟨a, rfl, hs⟩
mutual
theorem eqv_self : ∀ d : PyData, PyData.canLay0 d = true → PyData.eqv d d = true
  | .none, _ => by simp [PyData.eqv]
  | .bool _, _ => by simp [PyData.eqv]
  | .int _, _ => by simp [PyData.eqv]
  | .str _, _ => by simp [PyData.eqv]
  | .list xs, h => by simp only [PyData.eqv]; exact eqvAll_self xs (by simpa [PyData.canLay0] using h)
  | .tuple xs, h => by simp only [PyData.eqv]; exact eqvAll_self xs (by simpa [PyData.canLay0] using h)
  | .dict _, h => by simp [PyData.canLay0] at h
theorem eqvAll_self : ∀ ds : List PyData, PyData.canLayAll0 ds = true → PyData.eqvAll ds ds = true
  | [], _ => by simp [PyData.eqvAll]
  | d :: ds, h => by
    have h' : d.canLay0 = true ∧ PyData.canLayAll0 ds = true := by simpa [PyData.canLayAll0] using h
    simp [PyData.eqvAll, eqv_self d h'.1, eqvAll_self ds h'.2]
end
/-- no bools, no dicts: == is equality -/
def noB : PyData → Bool
  | .none | .int _ | .str _ => true
  | .list xs | .tuple xs => noBAll xs
  | .bool _ | .dict _ => false
where noBAll : List PyData → Bool
  | [] => true
  | x :: xs => noB x && noBAll xs
mutual
theorem eqv_eq : ∀ d e : PyData, noB d = true → noB e = true → PyData.eqv d e = true → d = e
  | .none, e, _, _, h => by cases e <;> simp [PyData.eqv] at h ⊢
  | .int _, e, _, he, h => by cases e <;> simp [PyData.eqv, noB] at h he ⊢; exact h
  | .str _, e, _, _, h => by cases e <;> simp [PyData.eqv] at h ⊢; exact h
  | .list xs, e, hd, he, h => by
    cases e <;> simp [PyData.eqv] at h ⊢
    exact eqvAll_eq xs _ (by simpa [noB] using hd) (by simpa [noB] using he) h
  | .tuple xs, e, hd, he, h => by
    cases e <;> simp [PyData.eqv] at h ⊢
    exact eqvAll_eq xs _ (by simpa [noB] using hd) (by simpa [noB] using he) h
  | .bool _, _, hd, _, _ => by simp [noB] at hd
  | .dict _, _, hd, _, _ => by simp [noB] at hd
theorem eqvAll_eq : ∀ ds es : List PyData, noB.noBAll ds = true → noB.noBAll es = true → PyData.eqvAll ds es = true → ds = es
  | [], es, _, _, h => by cases es <;> simp [PyData.eqvAll] at h ⊢
  | d :: ds, es, hd, he, h => by
    cases es with
    | nil => simp [PyData.eqvAll] at h
    | cons e es =>
      simp [PyData.eqvAll] at h
      simp [noB.noBAll] at hd he
      rw [eqv_eq d e hd.1 he.1 h.1, eqvAll_eq ds es hd.2 he.2 h.2]
end
end
end Hk

/-! Own errors with one field: making, raising; a callee that may raise, called where it does not. -/
namespace Hk
open PySem PySem.Spec PyProof.Rows L2
theorem passN {X : Cx} : Passes (CX X.prog X.w) X E0 := fun _ _ _ _ _ _ _ h => by
  obtain ⟨_, _, _, _, _, _, _, _, _, _, _, _, hE⟩ := h
  exact hE.elim
/-- __init__(self, x): self.f = x -/
def sp_err1 (C : Addr) (f : Str) : Sp := fun vs H Q _ => ∃ (a : Addr) (v : V), vs = [.ref a, v] ∧ H a = some (exo a C none) ∧ ∀ dx, H dx = none → dx ≠ a → Q .non (upd (upd H dx (exd dx [(f, v)])) a (exo a C (some dx)))
section
variable {K : PySem.W.Frag} {σ : L2.St} {H : Hp} {D : Ends} {to te : TE} {f : Str} {C : Addr} {sp : Sp} {W : WX} {ta : TA} {v : V}
theorem rd_ost (h : te σ H fun y H1 => to σ H1 fun x H2 => ∃ a C : Addr, x = .ref a ∧ OexC K C ∧ PySem.W.findIn K (.ref C) f = some none ∧
  ((H2 a = some (exo a C none) ∧ ∀ dx, H2 dx = none → dx ≠ a → D.nx σ (upd (upd H2 dx (exd dx [(f, y)])) a (exo a C (some dx)))) ∨
    ∃ (dx : Addr) (fs : List (Str × V)), H2 a = some (exo a C (some dx)) ∧ H2 dx = some (exd dx fs) ∧ fs.length ≤ 900 ∧ D.nx σ (upd H2 dx (exd dx ((f, y) :: fs))))) : tOst K f to te D σ H := h
def tRaiseO (C : Addr) (sp : Sp) (W : WX) (ta : TA) : TS := fun _ σ H => tMkO C sp [] ta σ H fun cls d H' => W cls d σ H'
def RaiseK (C : Addr) (sp : Sp) (vs : List V) (H1 : Hp) (W : XK) : Prop := vs.length ≤ 1000 ∧ ∀ a, H1 a = none → sp (.ref a :: (vs ++ [])) (upd H1 a (exo a C none))
  (fun v H2 => v = .non ∧ ∃ (d : Addr) (fs : List (Str × V)), H2 a = some (exo a C (some d)) ∧ H2 d = some (exd d fs) ∧ H1 d = none ∧ W (.ref C) (some d) (upd (del H2 a) d (.xd fs))) (fun _ _ _ => False)
theorem rd_raiseO (h : ta σ H fun vs H1 => RaiseK C sp vs H1 fun cls d H' => W cls d σ H') : tRaiseO C sp W ta D σ H := h
theorem rd_err1 {W : XK} (h : ∀ d H', H d = none → Same H H' → H' d = some (.xd [(f, v)]) → W (.ref C) (some d) H') : RaiseK C (sp_err1 C f) [v] H W := by
  refine ⟨by simp, fun a ha => ⟨a, v, rfl, upd_same, fun dx hdx hne => ⟨rfl, dx, [(f, v)], upd_same, ?_, ?_, ?_⟩⟩⟩
  · rw [upd_ne hne]
    exact upd_same
  · rw [upd_ne hne] at hdx
    exact hdx
  · rw [upd_ne hne] at hdx
    refine h dx _ hdx (fun c o e => ?_) upd_same
    have c1 : c ≠ a := ne_of_none e ha
    have c2 : c ≠ dx := ne_of_none e hdx
    rw [upd_ne c2, del_ne c1, upd_ne c1, upd_ne c2, upd_ne c1]
    exact e
end
section
variable {X : Cx} {e : Expr} {es : List Expr} {ta : TA} {p pos : Pos}
theorem ps_raiseO {CX : CXT} {x : Str} {C fI : Addr} {k : Nat} {fd : FuncData} {ps : List Str} {sp : Sp} {W : WX} {pos2 : Pos} (hc : X.calm = true) (tk : Takes X W) (T : OexC X.K C) (iC : PySem.W.findIn X.K (.ref C) "__init__" = some (some (.ref fI))) (tI : PySem.W.typeIn X.K (.ref fI) = some (.type "function"))
    (F1 : FnOk X.prog X.w X.K X.mg X.base CX k fI fd ps sp) (hr : Room (k + 1) X.A) (hb : Binds X.K fd ps []) (hx : Passes CX X E0) (hg : Gl X x) (hm : X.mg x = some (.ref C)) (ha : PA X (e :: es) ta)
    (hdb : (x == ("__debug__" : Str)) = false := by decide) (he : starEach (e :: es) X.env = (false, eval e X.env) :: starEach es X.env := by rfl) (hpl : (backTo pos (starEach es X.env)).any (·.1) = false := by rfl) :
    PS X (.Raise (some (.Call (.Name x p) (e :: es) [] pos)) none pos2) (tRaiseO C sp W ta) := ps_raise hc tk (pmk_oex T iC tI F1 hr hb .nil hx hg hm ha hdb he hpl)
end
end Hk

/-! Steps in a heap with a frozen part: new things, the bag, comprehensions. -/
namespace Hk
open PySem PySem.Spec PyProof.Rows L2
/-- a display: a new tuple, a new list -/
def TupK (xs : List V) (H : Hp) (Q : VK) : Prop := xs.length ≤ sizeLine ∧ ∀ p, H p = none → Q (.ref p) (upd H p (.tup xs))
def LstK (xs : List V) (H : Hp) (Q : VK) : Prop := xs.length ≤ sizeLine ∧ ∀ p, H p = none → Q (.ref p) (upd H p (.lst xs))
theorem rd_tupK {tt : TA} {σ : L2.St} {H : Hp} {Q : VK} (h : tt σ H fun xs H1 => TupK xs H1 Q) : tTup tt σ H Q := h
theorem rd_lstK {tt : TA} {σ : L2.St} {H : Hp} {Q : VK} (h : tt σ H fun xs H1 => LstK xs H1 Q) : tLst tt σ H Q := h
section
variable {K : PySem.W.Frag} {F H : Hp} {Q : VK} {xs ys : List V} {ds es : List PyData} {S : List Addr} {p r : Addr}
theorem newL (fh : Same F H) (k : ∀ F' H' p, Grow [] F H F' H' → H p = none → F' p = some (.lst xs) → Q (.ref p) H') (hz : xs.length ≤ sizeLine := by exact sz_of (by simp)) : LstK xs H Q :=
  ⟨hz, fun p hp => k (upd F p (.lst xs)) _ p ((Grow.refl fh).new hp) hp upd_same⟩
theorem newT (fh : Same F H) (k : ∀ F' H' p, Grow [] F H F' H' → H p = none → F' p = some (.tup xs) → Q (.ref p) H') (hz : xs.length ≤ sizeLine := by exact sz_of (by simp)) : TupK xs H Q :=
  ⟨hz, fun p hp => k (upd F p (.tup xs)) _ p ((Grow.refl fh).new hp) hp upd_same⟩
/-- a new list that will be written -/
theorem newO (fh : Same F H) (k : ∀ H' p, Grow [] F H F H' → H p = none → Hold F H' p (.lst xs) → Q (.ref p) H') (hz : xs.length ≤ sizeLine := by exact sz_of (by simp)) : LstK xs H Q :=
  ⟨hz, fun p hp => k _ p ((Grow.refl fh).newO hp) hp (Hold.new fh hp)⟩
/-- .. of data -/
theorem newLD (fh : Same F H) (h : DpAll K F xs ds) (k : ∀ F' H' p, Grow [] F H F' H' → H p = none → Dp K F' (.ref p) (.list ds) → Q (.ref p) H') (hz : xs.length ≤ sizeLine := by exact sz_of (by simp)) : LstK xs H Q :=
  newL fh (fun F' H' p g n e => k F' H' p g n (.lst (sqL_of e) (h.mono g.ff))) hz
theorem newTD (fh : Same F H) (h : DpAll K F xs ds) (k : ∀ F' H' p, Grow [] F H F' H' → H p = none → Dp K F' (.ref p) (.tuple ds) → Q (.ref p) H') (hz : xs.length ≤ sizeLine := by exact sz_of (by simp)) : TupK xs H Q :=
  newT fh (fun F' H' p g n e => k F' H' p g n (.tup (sqT_of e) (h.mono g.ff))) hz
/-- list(x), x a list or a tuple -/
theorem new_list (fh : Same F H) (h : SqL K F r xs ∨ SqT K F r xs) (k : ∀ F' H' p, Grow [] F H F' H' → H p = none → F' p = some (.lst xs) → Q (.ref p) H') : rListOf K [.ref r] H Q :=
  ⟨r, xs, rfl, h.imp (fun z => fh.seq z) (fun z => sqT_same fh z), fun l hl => k (upd F l (.lst xs)) _ l ((Grow.refl fh).new hl) hl upd_same⟩
/-- x + y of lists: what stands in the heap -/
theorem new_cat (fh : Same F H) (h1 : H p = some (.lst xs)) (h2 : H r = some (.lst ys)) (hz : xs.length + ys.length ≤ 100000) (k : ∀ F' H' l, Grow [] F H F' H' → H l = none → F' l = some (.lst (xs ++ ys)) → Q (.ref l) H') : rCat (.ref p) (.ref r) H Q :=
  ⟨p, r, xs, ys, rfl, rfl, h1, h2, sz_of hz, fun l hl => k (upd F l (.lst (xs ++ ys))) _ l ((Grow.refl fh).new hl) hl upd_same⟩
/-- == of data -/
theorem eq_dat {x y : V} {d : PyData} (hx : Dp K F x d) (hy : Dp K F y d) (fh : Same F H) (s : SeqAt.shaped d = true) (q : Q (.bl true) H) : rEqD K x y H Q :=
  rd_eqD (hx.mono fh) (hy.mono fh) s s (by
    have h : PyData.canLay0 d = true := by
      have := s
      unfold SeqAt.shaped at this
      rw [Bool.and_eq_true] at this
      exact this.1
    rw [eqv_self d h]; exact q)
theorem ne_dat {x y : V} {d : PyData} (hx : Dp K F x d) (hy : Dp K F y d) (fh : Same F H) (s : SeqAt.shaped d = true) (q : Q (.bl false) H) : rNeD K x y H Q :=
  rd_neD (hx.mono fh) (hy.mono fh) s s (by
    have h : PyData.canLay0 d = true := by
      have := s
      unfold SeqAt.shaped at this
      rw [Bool.and_eq_true] at this
      exact this.1
    rw [eqv_self d h]; exact q)
/-- the bag of a law: two numbers, written by each draw -/
structure Bag (F H : Hp) (b : Addr) : Prop where
  fh : Same F H
  fb : F b = none
  hb : ∃ d m : Int, H b = some (.lst [.int d, .int m])
theorem Bag.nn {b : Addr} (h : Bag F H b) : H b ≠ none := by
  obtain ⟨d, m, e⟩ := h.hb
  exact some_ne e
theorem Bag.go0 {b : Addr} {F' H' : Hp} (h : Bag F H b) (g : Grow [] F H F' H') : Bag F' H' b := by
  obtain ⟨d, m, e⟩ := h.hb
  exact ⟨g.fh, (g.own b h.fb h.nn).1, d, m, g.same _ _ e⟩
theorem Bag.mk' {b : Addr} {F' H' : Hp} (h : Bag F H b) (g : Grow [b] F H F' H') (e : ∃ d m : Int, H' b = some (.lst [.int d, .int m])) : Bag F' H' b := ⟨g.fh, (g.own b h.fb h.nn).1, e⟩
theorem Bag.turn {b : Addr} (h : Bag F H b) (d m : Int) : Grow [b] F H F (upd H b (.lst [.int d, .int m])) ∧ Bag F (upd H b (.lst [.int d, .int m])) b :=
  ⟨(Grow.refl h.fh).mut h.fb (.inl (by simp)), same_mut h.fh h.fb, h.fb, d, m, upd_same⟩
theorem Bag.mut {b p : Addr} {o u : HO} (h : Bag F H b) (hp : Hold F H p o) (n : p ≠ b) : Bag F (upd H p u) b := by
  obtain ⟨d, m, e⟩ := h.hb
  exact ⟨same_mut h.fh hp.f, h.fb, d, m, upd_old n.symm e⟩
theorem Hold.goB {F' H' : Hp} {p b : Addr} {o : HO} (h : Hold F H p o) (g : Grow [b] F H F' H') (n : p ≠ b) : Hold F' H' p o := h.go g (by simpa using n)
end
section
variable {K : PySem.W.Frag} {σ : L2.St} {F H : Hp} {g : TG} {tt : TT} {te : TE} {vs : List Nat} {Q : VK} {S : List Addr}
/-- a comprehension, turn by turn: A tells of the turn, the frozen part and what is made so far; Z of the frozen part and the heap -/
theorem lcG {J : It} {n : Nat} {X : Nat → V → Prop} (A : Nat → Hp → List V → Prop) (Z : Hp → Hp → Prop) (fh : Same F H) (hz : n ≤ 100000)
    (hst : ∀ H', Same F H' → J.stop n H') (hgo : ∀ i H', Same F H' → i < n → J.go i H') (hy : ∀ i H1 x H2, i < n → Same F H1 → J.yld i H1 x H2 → H2 = H1 ∧ X i x)
    (a0 : A 0 F []) (z0 : Z F H) (zup : ∀ F' H' D o, Z F' H' → H D = none → F' D = none → Z F' (upd H' D o)) (al : ∀ i F' acc, A i F' acc → acc.length ≤ i) (am : ∀ i F1 F2 acc, Same F1 F2 → A i F1 acc → A i F2 acc)
    (turn : ∀ i x F1 H1 acc, i < n → X i x → Grow S F H F1 H1 → Z F1 H1 → A i F1 acc → ∀ (Done : Hp → Prop) (Kept : VK), (∀ F2 H2, Grow S F1 H1 F2 H2 → Z F2 H2 → A (i + 1) F2 acc → Done H2) →
      (∀ F2 H2 y, Grow S F1 H1 F2 H2 → Z F2 H2 → A (i + 1) F2 (acc ++ [y]) → Kept y H2) →
      g x (wipe σ vs) H1 fun σ2 H2 => wipe σ2 vs = wipe σ vs ∧ tt σ2 H2 fun b H3 => if b = true then te σ2 H3 Kept else Done H3)
    (hS : ∀ D, H D = none → D ∉ S)
    (q : ∀ F' H' D acc, Grow S F H F' H' → Z F' H' → H D = none → Hold F' H' D (.lst acc) → A n F' acc → Q (.ref D) H') : LcK J g tt te vs σ H Q := by
  intro D hD
  have fD : F D = none := fh.free hD
  have nD : D ∉ S := hS D hD
  refine ⟨fun i m H' => m = n - i ∧ i ≤ n ∧ ∃ F' acc, Grow S F H F' H' ∧ Z F' H' ∧ Hold F' H' D (.lst acc) ∧ A i F' acc, ⟨n, by simp, Nat.zero_le _, F, [], (Grow.refl fh).newO hD, zup _ _ _ _ z0 hD fD, Hold.new fh hD, a0⟩, ?_⟩
  rintro i m H1 ⟨rfl, hi, F1, acc, g1, z1, d1, a1⟩
  have s1 : Same F H1 := g1.ff.trans g1.fh
  by_cases hlt : i < n
  · refine .inr ⟨hgo i H1 s1 hlt, fun H' => i + 1 ≤ n ∧ ∃ F' acc, Grow S F H F' H' ∧ Z F' H' ∧ Hold F' H' D (.lst acc) ∧ A (i + 1) F' acc, fun H' p' => ⟨n - (i + 1), by omega, rfl, p'⟩, fun x H2 y => ?_⟩
    obtain ⟨rfl, hx⟩ := hy i H1 x H2 hlt s1 y
    refine turn i x F1 H2 acc hlt hx g1 z1 a1 _ _ (fun F3 H3 g3 z3 a3 => ?_) (fun F3 H3 y g3 z3 a3 => ?_)
    · exact ⟨hlt, F3, acc, g1.trans g3, z3, d1.go g3 nD, a3⟩
    · have d3 := d1.go g3 nD
      refine ⟨acc, d3.h, ?_, hlt, F3, acc ++ [y], (g1.trans g3).mut d3.f (.inr hD), zup _ _ _ _ z3 hD d3.f, d3.put, a3⟩
      have := al _ _ _ a1
      rw [sizeLine_eq]
      omega
  · have e : i = n := by omega
    subst e
    exact .inl ⟨hst H1 s1, q F1 H1 D acc g1 z1 hD d1 a1⟩
/-- pure, over a frozen list -/
theorem lcPL {a : Addr} {xs : List V} (A : Nat → Hp → List V → Prop) (fh : Same F H) (hx : SqL K F a xs) (hz : xs.length ≤ 100000)
    (a0 : A 0 F []) (al : ∀ i F' acc, A i F' acc → acc.length ≤ i) (am : ∀ i F1 F2 acc, Same F1 F2 → A i F1 acc → A i F2 acc)
    (turn : ∀ i x F1 H1 acc, i < xs.length → xs[i]? = some x → Grow [] F H F1 H1 → A i F1 acc → ∀ (Done : Hp → Prop) (Kept : VK), (∀ F2 H2, Grow [] F1 H1 F2 H2 → A (i + 1) F2 acc → Done H2) →
      (∀ F2 H2 y, Grow [] F1 H1 F2 H2 → A (i + 1) F2 (acc ++ [y]) → Kept y H2) →
      g x (wipe σ vs) H1 fun σ2 H2 => wipe σ2 vs = wipe σ vs ∧ tt σ2 H2 fun b H3 => if b = true then te σ2 H3 Kept else Done H3)
    (q : ∀ F' H' D acc, Grow [] F H F' H' → H D = none → Hold F' H' D (.lst acc) → A xs.length F' acc → Q (.ref D) H') : LcK (Itl K a) g tt te vs σ H Q :=
  lcG (X := fun i x => xs[i]? = some x) A (fun _ _ => True) fh hz (fun H' s => ⟨xs, s.seq hx, Nat.le_refl _⟩) (fun i H' s hi => ⟨xs, xs[i], s.seq hx, by simp [hi]⟩)
    (fun i H1 x H2 hi s1 y => by obtain ⟨rfl, y⟩ := y; exact ⟨rfl, y xs (s1.seq hx)⟩) a0 trivial (fun _ _ _ _ _ _ _ => trivial) al am
    (fun i x F1 H1 acc hi hx' g1 _ a1 Done Kept hd hk => turn i x F1 H1 acc hi hx' g1 a1 Done Kept (fun F2 H2 g2 a2 => hd F2 H2 g2 trivial a2) fun F2 H2 y g2 a2 => hk F2 H2 y g2 trivial a2)
    (fun _ _ => by simp) fun F' H' D acc g' _ n h a' => q F' H' D acc g' n h a'
theorem lcPT {a : Addr} {xs : List V} (A : Nat → Hp → List V → Prop) (fh : Same F H) (hx : SqT K F a xs) (hz : xs.length ≤ 100000)
    (a0 : A 0 F []) (al : ∀ i F' acc, A i F' acc → acc.length ≤ i) (am : ∀ i F1 F2 acc, Same F1 F2 → A i F1 acc → A i F2 acc)
    (turn : ∀ i x F1 H1 acc, i < xs.length → xs[i]? = some x → Grow [] F H F1 H1 → A i F1 acc → ∀ (Done : Hp → Prop) (Kept : VK), (∀ F2 H2, Grow [] F1 H1 F2 H2 → A (i + 1) F2 acc → Done H2) →
      (∀ F2 H2 y, Grow [] F1 H1 F2 H2 → A (i + 1) F2 (acc ++ [y]) → Kept y H2) →
      g x (wipe σ vs) H1 fun σ2 H2 => wipe σ2 vs = wipe σ vs ∧ tt σ2 H2 fun b H3 => if b = true then te σ2 H3 Kept else Done H3)
    (q : ∀ F' H' D acc, Grow [] F H F' H' → H D = none → Hold F' H' D (.lst acc) → A xs.length F' acc → Q (.ref D) H') : LcK (Itt K a) g tt te vs σ H Q :=
  lcG (X := fun i x => xs[i]? = some x) A (fun _ _ => True) fh hz (fun H' s => ⟨xs, sqT_same s hx, Nat.le_refl _⟩) (fun i H' s hi => ⟨xs, xs[i], sqT_same s hx, by simp [hi]⟩)
    (fun i H1 x H2 hi s1 y => by obtain ⟨rfl, y⟩ := y; exact ⟨rfl, y xs (sqT_same s1 hx)⟩) a0 trivial (fun _ _ _ _ _ _ _ => trivial) al am
    (fun i x F1 H1 acc hi hx' g1 _ a1 Done Kept hd hk => turn i x F1 H1 acc hi hx' g1 a1 Done Kept (fun F2 H2 g2 a2 => hd F2 H2 g2 trivial a2) fun F2 H2 y g2 a2 => hk F2 H2 y g2 trivial a2)
    (fun _ _ => by simp) fun F' H' D acc g' _ n h a' => q F' H' D acc g' n h a'
/-- with draws, over a frozen list -/
theorem lcBL {a b : Addr} {xs : List V} (A : Nat → Hp → List V → Prop) (hb : Bag F H b) (hx : SqL K F a xs) (hz : xs.length ≤ 100000)
    (a0 : A 0 F []) (al : ∀ i F' acc, A i F' acc → acc.length ≤ i) (am : ∀ i F1 F2 acc, Same F1 F2 → A i F1 acc → A i F2 acc)
    (turn : ∀ i x F1 H1 acc, i < xs.length → xs[i]? = some x → Grow [b] F H F1 H1 → Bag F1 H1 b → A i F1 acc → ∀ (Done : Hp → Prop) (Kept : VK), (∀ F2 H2, Grow [b] F1 H1 F2 H2 → Bag F2 H2 b → A (i + 1) F2 acc → Done H2) →
      (∀ F2 H2 y, Grow [b] F1 H1 F2 H2 → Bag F2 H2 b → A (i + 1) F2 (acc ++ [y]) → Kept y H2) →
      g x (wipe σ vs) H1 fun σ2 H2 => wipe σ2 vs = wipe σ vs ∧ tt σ2 H2 fun b H3 => if b = true then te σ2 H3 Kept else Done H3)
    (q : ∀ F' H' D acc, Grow [b] F H F' H' → Bag F' H' b → H D = none → Hold F' H' D (.lst acc) → A xs.length F' acc → Q (.ref D) H') : LcK (Itl K a) g tt te vs σ H Q :=
  lcG (X := fun i x => xs[i]? = some x) A (fun F' H' => Bag F' H' b) hb.fh hz (fun H' s => ⟨xs, s.seq hx, Nat.le_refl _⟩) (fun i H' s hi => ⟨xs, xs[i], s.seq hx, by simp [hi]⟩)
    (fun i H1 x H2 hi s1 y => by obtain ⟨rfl, y⟩ := y; exact ⟨rfl, y xs (s1.seq hx)⟩) a0 hb
    (fun F' H' D o z n f => by
      obtain ⟨d, m, e⟩ := z.hb
      exact ⟨same_mut z.fh f, z.fb, d, m, upd_old (fun q => hb.nn (q ▸ n)) e⟩) al am turn
    (fun D n => by simp; exact fun q => hb.nn (q ▸ n)) q
theorem rng_yld {n : Nat} {i : Nat} {H1 H2 : Hp} {x : V} (h : (Itr 0 n).yld i H1 x H2) : H2 = H1 ∧ x = .int (i : Int) := by
  obtain ⟨rfl, rfl⟩ := h
  have e : (0 : Int) + (i : Int) = (i : Int) := Int.zero_add _
  rw [e]
  exact ⟨rfl, rfl⟩
/-- over range(n) -/
theorem lcPR {n : Nat} (A : Nat → Hp → List V → Prop) (fh : Same F H) (hz : n ≤ 100000)
    (a0 : A 0 F []) (al : ∀ i F' acc, A i F' acc → acc.length ≤ i) (am : ∀ i F1 F2 acc, Same F1 F2 → A i F1 acc → A i F2 acc)
    (turn : ∀ (i : Nat) F1 H1 acc, i < n → Grow [] F H F1 H1 → A i F1 acc → ∀ (Done : Hp → Prop) (Kept : VK), (∀ F2 H2, Grow [] F1 H1 F2 H2 → A (i + 1) F2 acc → Done H2) →
      (∀ F2 H2 y, Grow [] F1 H1 F2 H2 → A (i + 1) F2 (acc ++ [y]) → Kept y H2) →
      g (.int (i : Int)) (wipe σ vs) H1 fun σ2 H2 => wipe σ2 vs = wipe σ vs ∧ tt σ2 H2 fun b H3 => if b = true then te σ2 H3 Kept else Done H3)
    (q : ∀ F' H' D acc, Grow [] F H F' H' → H D = none → Hold F' H' D (.lst acc) → A n F' acc → Q (.ref D) H') : LcK (Itr 0 n) g tt te vs σ H Q :=
  lcG (X := fun i x => x = .int (i : Int)) A (fun _ _ => True) fh hz (fun H' s => Nat.le_refl _) (fun i H' s hi => hi)
    (fun i H1 x H2 hi s1 y => rng_yld y) a0 trivial (fun _ _ _ _ _ _ _ => trivial) al am
    (fun i x F1 H1 acc hi hx' g1 _ a1 Done Kept hd hk => by subst hx'; exact turn i F1 H1 acc hi g1 a1 Done Kept (fun F2 H2 g2 a2 => hd F2 H2 g2 trivial a2) fun F2 H2 y g2 a2 => hk F2 H2 y g2 trivial a2)
    (fun _ _ => by simp) fun F' H' D acc g' _ n h a' => q F' H' D acc g' n h a'
theorem lcBR {n : Nat} {b : Addr} (A : Nat → Hp → List V → Prop) (hb : Bag F H b) (hz : n ≤ 100000)
    (a0 : A 0 F []) (al : ∀ i F' acc, A i F' acc → acc.length ≤ i) (am : ∀ i F1 F2 acc, Same F1 F2 → A i F1 acc → A i F2 acc)
    (turn : ∀ (i : Nat) F1 H1 acc, i < n → Grow [b] F H F1 H1 → Bag F1 H1 b → A i F1 acc → ∀ (Done : Hp → Prop) (Kept : VK), (∀ F2 H2, Grow [b] F1 H1 F2 H2 → Bag F2 H2 b → A (i + 1) F2 acc → Done H2) →
      (∀ F2 H2 y, Grow [b] F1 H1 F2 H2 → Bag F2 H2 b → A (i + 1) F2 (acc ++ [y]) → Kept y H2) →
      g (.int (i : Int)) (wipe σ vs) H1 fun σ2 H2 => wipe σ2 vs = wipe σ vs ∧ tt σ2 H2 fun b H3 => if b = true then te σ2 H3 Kept else Done H3)
    (q : ∀ F' H' D acc, Grow [b] F H F' H' → Bag F' H' b → H D = none → Hold F' H' D (.lst acc) → A n F' acc → Q (.ref D) H') : LcK (Itr 0 n) g tt te vs σ H Q :=
  lcG (X := fun i x => x = .int (i : Int)) A (fun F' H' => Bag F' H' b) hb.fh hz (fun H' s => Nat.le_refl _) (fun i H' s hi => hi)
    (fun i H1 x H2 hi s1 y => rng_yld y) a0 hb
    (fun F' H' D o z n f => by
      obtain ⟨d, m, e⟩ := z.hb
      exact ⟨same_mut z.fh f, z.fb, d, m, upd_old (fun q => hb.nn (q ▸ n)) e⟩) al am
    (fun i x F1 H1 acc hi hx' g1 z1 a1 Done Kept hd hk => by subst hx'; exact turn i F1 H1 acc hi g1 z1 a1 Done Kept hd hk)
    (fun D n => by simp; exact fun q => hb.nn (q ▸ n)) q
/-- each row gives a datum or nothing: pure comprehension over a frozen list of data -/
theorem lcDat {ρ : Type} {a : Addr} {xs : List V} {rows : List ρ} {ds : ρ → PyData} (f : ρ → Bool) (v : ρ → PyData) (fh : Same F H) (hx : SqL K F a xs) (hd : DpAll K F xs (rows.map ds)) (hz : rows.length ≤ 100000)
    (turn : ∀ x r F1 H1, r ∈ rows → Dp K F1 x (ds r) → Grow [] F H F1 H1 → ∀ (Done : Hp → Prop) (Kept : VK), (∀ F2 H2, Grow [] F1 H1 F2 H2 → f r = false → Done H2) →
      (∀ F2 H2 y, Grow [] F1 H1 F2 H2 → f r = true → Dp K F2 y (v r) → Kept y H2) →
      g x (wipe σ vs) H1 fun σ2 H2 => wipe σ2 vs = wipe σ vs ∧ tt σ2 H2 fun b H3 => if b = true then te σ2 H3 Kept else Done H3)
    (q : ∀ F' H' D acc, Grow [] F H F' H' → H D = none → Hold F' H' D (.lst acc) → DpAll K F' acc ((rows.filter f).map v) → Q (.ref D) H') : LcK (Itl K a) g tt te vs σ H Q := by
  have hn : xs.length = rows.length := by simpa using hd.length
  refine lcPL (fun i F' acc => DpAll K F' acc (((rows.take i).filter f).map v)) fh hx (by omega) .nil (fun i F' acc h => ?_) (fun i F1 F2 acc s h => h.mono s) (fun i x F1 H1 acc hi hx' g1 a1 Done Kept hdn hk => ?_) (fun F' H' D acc g' n h a' => q F' H' D acc g' n h (by rw [hn, List.take_length] at a'; exact a'))
  · rw [h.length, List.length_map]
    have h1 := List.length_filter_le f (rows.take i)
    have h2 : (rows.take i).length ≤ i := by rw [List.length_take]; omega
    omega
  · obtain ⟨d, e, hd'⟩ := hd.get hx'
    rw [List.getElem?_map] at e
    have hr : i < rows.length := by omega
    rw [List.getElem?_eq_getElem hr] at e
    cases e
    refine turn x rows[i] F1 H1 (List.getElem_mem hr) (hd'.mono g1.ff) g1 Done Kept (fun F2 H2 g2 hf => ?_) (fun F2 H2 y g2 hf hv => ?_)
    · refine hdn F2 H2 g2 ?_
      rw [filter_take_succ f (List.getElem?_eq_getElem hr), hf]
      simp only [Bool.false_eq_true, if_false, List.append_nil]
      exact a1.mono g2.ff
    · refine hk F2 H2 y g2 ?_
      rw [filter_take_succ f (List.getElem?_eq_getElem hr), hf]
      simp only [if_true, List.map_append, List.map_cons, List.map_nil]
      exact (a1.mono g2.ff).snoc hv
end
end Hk

/-! unary operators and abs by own special methods -/
namespace Hk
open PySem PySem.Spec PyProof.Rows L2
section
variable {X : Cx} {n : Nat} {C : Addr} {sp : Sp} {E : XK}
def rUnO (C : Addr) (sp : Sp) (E : XK) : V → Hp → VK → Prop := fun x H Q => ∃ a dx fs, x = .ref a ∧ H a = some (.ins C dx fs) ∧ sp [.ref a] H Q E
theorem un_O {op : UnaryOp} {nm : Str} (G : Own X C nm n sp E) (hr : Room n X.A) (hop : (match op with | .Invert => some ("__invert__" : Str) | .UAdd => some "__pos__" | .USub => some "__neg__" | .Not => none) = some nm := by rfl) : UnR X (unaryOp op) (rUnO C sp E) := by
  obtain ⟨f, fd, ps, CX, F, hs, hf, hb, hx⟩ := G.ex
  intro pins s σ H x u Q I r h
  obtain ⟨a, dx, fs, rfl, ha, q⟩ := h
  cases r
  obtain ⟨mA, J, _⟩ := ins_get I.hok ha
  obtain ⟨od, J, _⟩ := J.look
  obtain ⟨m, hF⟩ := I.fr
  have sb : Sub X n X.A := ⟨hr, rfl⟩
  have z := run_sub (vs := [V.ref a]) sb F hb hx I (.cons rfl .nil) q
  unfold unaryOp
  refine wpAny_holding ?_
  cases op with
  | Not => cases hop
  | _ =>
    cases hop
    exact wpAny_bind (PySem.W.special_fn I.kIn J hs (beq_iff_eq.mp hf) (wpAny_mono z (fun v s' h' => wpAny_pure h') fun _ _ y => y))
def rAbsO (C : Addr) (sp : Sp) (E : XK) : List V → Hp → VK → Prop := fun xs H Q => ∃ a dx fs, xs = [.ref a] ∧ H a = some (.ins C dx fs) ∧ sp [.ref a] H Q E
theorem call_absO (G : Own X C "__abs__" n sp E) (hr : Room (n + 1) X.A) : CallR X (.builtin "abs") (rAbsO C sp E) := by
  obtain ⟨f, fd, ps, CX, F, hs, hf, hb, hx⟩ := G.ex
  intro pins s σ H xs us Q I r h
  obtain ⟨a, dx, fs, rfl, ha, q⟩ := h
  cases r with
  | cons r1 r2 =>
    cases r2
    cases r1
    obtain ⟨mA, J, _⟩ := ins_get I.hok ha
    obtain ⟨od, J, _⟩ := J.look
    have sb : Sub X n X.A.in1 := ⟨hr.in1, rfl⟩
    have z := run_sub (vs := [V.ref a]) sb F hb hx I (.cons rfl .nil) q
    refine PySem.Calls.call_function_entry kind_abs plain_abs entry_abs (args_abs _) ?_
    unfold Builtin.«abs»
    refine wpAny_bind (m := oneArg "abs" _) (wpAny_pure ?_)
    exact wpAny_bind (PySem.W.special_fn I.kIn J hs (beq_iff_eq.mp hf) (wpAny_mono z (fun v s' h' => wpAny_pure ⟨_, rfl, h'⟩) fun _ _ y => y))
theorem rd_unO {a dx : Addr} {fs : List (Str × V)} {H : Hp} {Q : VK} (h : H a = some (.ins C dx fs)) (q : sp [.ref a] H Q E) : rUnO C sp E (.ref a) H Q := ⟨a, dx, fs, rfl, h, q⟩
theorem rd_absO {a dx : Addr} {fs : List (Str × V)} {H : Hp} {Q : VK} (h : H a = some (.ins C dx fs)) (q : sp [.ref a] H Q E) : rAbsO C sp E [.ref a] H Q := ⟨a, dx, fs, rfl, h, q⟩
end
end Hk

/-! Catching own errors that have fields: e.f, isinstance(e, C), class methods called in a try. -/
namespace Hk
open PySem PySem.Spec PyProof.Rows L2
section
variable {X : Cx} {a D : Addr} {oe : Obj} {cls : Value} {d : Option Addr} {pn : List (Addr × Obj)}
def rIsX (K : PySem.W.Frag) (D a : Addr) (cls : Value) (d : Option Addr) : List V → Hp → VK → Prop := fun xs H Q => ∃ (c : V) (u : Value) (b : Bool) (dd : Addr) (fs : List (Str × V)), xs = [.ref a, c] ∧ cls = .ref D ∧ d = some dd ∧ H dd = some (.xd fs) ∧ ClsV c u ∧ PySem.W.kitOne K (.ref D) u = some b ∧ Q (.bl b) H
theorem call_isX (G : ExcC X.K D) (hz : Zc cls d oe) (hf : ∃ vs, oe.data = .fields vs) : CallR (X.suite a ((a, oe) :: pn)) (.builtin "isinstance") (rIsX X.K D a cls d) := by
  intro pins s σ H xs us Q I r h
  obtain ⟨c, u, b, dd, fs, ex, ec, ed, ea, k, e, q⟩ := h
  subst ex ec ed
  obtain ⟨u1, u2, rfl, r1, r2⟩ := vals2 r
  cases (show u1 = Value.ref a from r1)
  have e2 := k.eq r2
  subst e2
  obtain ⟨hg, _⟩ := I.pin (a, oe) (List.mem_append_left _ List.mem_cons_self)
  obtain ⟨vs, hv⟩ := hf
  obtain ⟨mA, hns, _⟩ := (show ObjOk X.prog X.w H s.heap dd (.xd fs) from I.hok dd _ ea)
  obtain ⟨od, ho, _⟩ := lookIn_ns hns
  have J : PySem.W.InstAt s.heap a oe D (some od) := by
    refine ⟨hg, hz.1, ?_, ?_⟩
    · unfold PySem.W.notCls
      rw [hv] <;> rfl
    · rw [hz.2]
      exact ho
  have hcl : (PySem.W.clsIn X.K D).isSome = true := by
    obtain ⟨cd, h1, _⟩ := PySem.W.any_some G.hd
    rw [h1]
    rfl
  exact PySem.W.kia_one (PySem.W.kitx_exc hcl G.hg G.hk G.hs G.ha G.hn G.ht G.hm) I.kIn J e (fun z => nomatch z) fun tk => ⟨.bl b, H, I.tok tk, rfl, q⟩
end
section
variable {X : Cx} {CX : CXT} {k : Nat} {f C p g : Addr} {mc : Value} {sp : Sp} {E : L2.St → XK} {o e : Expr} {es : List Expr} {m : Str} {pos apos : Pos} {ta : TE} {t : TA} {pl : Sem Bool}
theorem run_at {pins : List (Addr × Obj)} {σ : L2.St} {H : Hp} {s : Shared} {Q : VK} {us : List Value} {vs : List V} {E1 : XK} (F : FnR X.prog X.w X.K X.mg X.base CX k f sp) (hr : Room k X.A) (hx : PassesAt CX X σ E1) (I : Inv X pins σ H s) (rv : Vals vs us) (h : sp vs H Q E1) :
    codeAny (model X.prog X.w) X.A (.call (.ref f) ⟨us, []⟩) (fun r s' => match r with | .ok (.ret v) => EP X pins σ Q v s' | .ok _ => False | .error e => X.xe e s') s :=
  codeAny_mono (F X.A X.stack s H us vs Q E1 hr I.env0 rv h) fun r s' hq => match r, hq with
    | .error e, hq => hx pins H s e s' I hq
    | .ok (.ret _), hq => I.after hq
    | .ok .next, hq => False.elim hq
    | .ok .brk, hq => False.elim hq
    | .ok .cont, hq => False.elim hq
/-- C.m(..), m a class method that may raise, in a try -/
def tCMethS (C : Addr) (sp : Sp) (E : L2.St → XK) (ta : TE) (t : TA) : TE := fun σ H Q => ta σ H fun x H1 => x = .ref C ∧ t σ H1 fun vs H2 => sp (.ref C :: vs) H2 Q (E σ)
theorem pe_cmethS (he : PE X o ta) (r : ClX.CRead X.K C mc) (c : ClX.CMet X.K C mc m p g) (F : FnR X.prog X.w X.K X.mg X.base CX k g sp) (hr : Room k X.A) (hx : ∀ σ, PassesAt CX X σ (E σ)) (ha : PA X (e :: es) t)
    (h1 : starEach (e :: es) X.env = (false, eval e X.env) :: starEach es X.env := by rfl) (h2 : (backTo pos (starEach es X.env)).any (·.1) = false := by rfl)
    (h3 : eval (.Call (.Attribute o m apos) (e :: es) [] pos) X.env = (do
      let ov ← eval o X.env
      standAt apos.atName
      let (f, first) ← holding [ov] (getMethod ov m pl)
      callWith pos f first (backTo pos (starEach (e :: es) X.env)) (backToKw pos (keywordEach [] X.env))) := by rfl) :
    PE X (.Call (.Attribute o m apos) (e :: es) [] pos) (tCMethS C sp E ta t) := by
  refine ⟨fun pins s σ H Q I h => ?_⟩
  refine PySem.W.methodCall_KW (pl := pl) (thn (he.run pins s σ H _ I h) fun u s1 ⟨x, H1, I1, rx, ex, q⟩ => ?_) h3
  subst ex
  obtain rfl : u = Value.ref C := rx
  refine ClX.getmethcm_ok I1 r c fun s2 I2 => ?_
  refine ClX.callwith_cm I2 (ClX.base_none I1 (Nat.le_refl _)) c.fi (thn (ha.run pos _ s2 σ H1 _ I2 q) fun us s3 ⟨vs, H2, I3, rv, q2⟩ => ⟨⟨ClX.pin_at I3, I3.kIn⟩, ?_⟩) h1 h2
  refine thn (wpAny_call (PySem.W.method_call (ClX.pin_at I3) (run_at (us := .ref C :: us) (vs := .ref C :: vs) F hr (hx σ) I3 (.cons rfl rv) q2))) fun _ _ y => ClX.unpinE y
end
section
variable {K : PySem.W.Frag} {σ : L2.St} {H : Hp} {Q : VK} {a D dd : Addr} {cls c : Value} {d : Option Addr} {i : Nat} {ts : Addr → Value → Option Addr → TS} {Wout : WX} {De : Ends} {te ta : TE} {tt : TA} {f : Str} {v : V} {sp : Sp} {E : L2.St → XK} {C : Addr}
theorem rd_wAs (e : PySem.W.exmOne K cls c = some true) (h : ∀ a, H a = none → ts a cls d ⟨fun σ' H' => De.nx (σ'.set i none) H', De.rt, fun σ' H' => De.bk (σ'.set i none) H', fun σ' H' => De.ct (σ'.set i none) H'⟩ (σ.set i (some (.ref a))) H) : wAs K c i ts Wout De cls d σ H :=
  ⟨true, e, fun _ => h, fun q => Bool.noConfusion q⟩
theorem rd_xf (h : te σ H fun x H1 => x = .ref a ∧ cls = .ref C ∧ ∃ (dd : Addr) (fs : List (Str × V)) (v : V), d = some dd ∧ H1 dd = some (.xd fs) ∧ fs.lookup f = some v ∧ Q v H1) : tXf a cls d C f te σ H Q := h
theorem rd_xfK (e : H dd = some (.xd [(f, v)])) (q : Q v H) : V.ref a = .ref a ∧ (Value.ref C) = .ref C ∧ ∃ (dd' : Addr) (fs : List (Str × V)) (v : V), (some dd) = some dd' ∧ H dd' = some (.xd fs) ∧ fs.lookup f = some v ∧ Q v H :=
  ⟨rfl, rfl, dd, _, v, rfl, e, by simp [List.lookup], q⟩
theorem rd_isX {u : Value} {b : Bool} {c : V} {fs : List (Str × V)} (e : H dd = some (.xd fs)) (k : ClsV c u) (h : PySem.W.kitOne K (.ref D) u = some b) (q : Q (.bl b) H) : rIsX K D a (.ref D) (some dd) [.ref a, c] H Q := ⟨c, u, b, dd, fs, rfl, rfl, rfl, e, k, h, q⟩
theorem rd_cmethS (h : ta σ H fun x H1 => x = .ref C ∧ tt σ H1 fun vs H2 => sp (.ref C :: vs) H2 Q (E σ)) : tCMethS C sp E ta tt σ H Q := h
theorem rd_callS (h : tt σ H fun vs H1 => sp vs H1 Q (E σ)) : tCallS sp E tt σ H Q := h
end
end Hk

/-! Own errors with fields, over ValueError or LookupError, made as values: C(..), e.f, isinstance(e, D). -/
namespace PySem
namespace OexX
open PySem.W PySem.Calls PyProof.Rows PySem.HandSPX
abbrev leTail : List Value := [.type "LookupError", .type "Exception", .type "BaseException", .type "object"]
/-- what stands behind an own class in its line of classes -/
structure MroX (bm : List Value) (newId : String) : Prop where
  base : ∃ (B initId : String) (bmB : List Value), ExcBaseFacts B newId initId bmB ∧ ∀ X : String, bm.contains (.type X) = bmB.contains (.type X)
  pass : ∀ self : Value, refuseLoop self "__setattr__" bm = pure ()
  obj : bm.contains (.type "object") = true
theorem mroX_ve {bm : List Value} (h : refsVE bm = true) : MroX bm "ValueError.__new__" :=
  ⟨⟨_, _, veTail, F.excBase_ValueError, fun X => refsVE_contains X bm h⟩, fun self => refsVE_pass self bm h, (refsVE_contains "object" bm h).trans (by decide +kernel)⟩
theorem mroX_le : MroX leTail "LookupError.__new__" :=
  ⟨⟨_, _, leTail, F.excBase_LookupError, fun _ => rfl⟩, fun self => F.store_LookupError.passes self, by decide +kernel⟩
theorem MroX.le {bm : List Value} (h : bm = leTail) : MroX bm "LookupError.__new__" := h ▸ mroX_le
section
open Builtin Builtin.ObjectAttr
variable {prog : Program} {w : World} {A : Around} {E : Value → Shared → Prop} {R : Result → Shared → Prop} {hp : Heap} {g : Array GenState} {dr : Drawn} {tc : Nat} {os : OsState} {K : W.Frag} {fname : Str} {tk : Tok} {val : Value} {me C : Addr} {fv : Array Value} {cd : ClassData}
/-- self.f = v, the first field -/
theorem storeX1 (X : K.In hp) (hme : hp.get? me = some { cls := .ref C, data := .fields fv }) (hcd : W.clsIn K C = some cd) (hpass : ∀ self : Value, refuseLoop self "__setattr__" cd.mro = pure ()) (hne : cd.mro.isEmpty = false) (hobj : cd.mro.contains (.type "object") = true) (hdict : cd.hasDict = true) (hno : W.findIn K (.ref C) fname = some none)
    (fin : ∀ h' tk' dx, (∀ b o, b ≠ me → hp.get? b = some o → h'.get? b = some o) → hp.objs.size ≤ dx → dx ≠ me → h'.get? me = some { cls := .ref C, dict := some dx, data := .fields fv } →
      h'.Ns1 dx (fun y => if y = fname then some val else none) → R (.ok (.ret .none)) ⟨h', g, dr, tk', os⟩) :
    codeAny (model prog w) A (.call (.builtin "object.__setattr__") ⟨[.ref me, .str fname tk, val], []⟩) R ⟨hp, g, dr, tc, os⟩ := by
  have J : W.InstAt hp me { cls := .ref C, data := .fields fv } C none := ⟨hme, rfl, rfl, trivial⟩
  have SO := F.store_object
  have apart : me ≠ hp.objs.size := Nat.ne_of_lt (Heap.lt_size hme)
  have isObj : W.Looks (model prog w) hp (isInstance (.ref me) (.type "object")) true := J.type.andThen (W.looks_mroIn X (by unfold W.mroIn; rw [hcd, Option.bind_some, if_neg (by rw [hne]; decide), hobj]))
  refine codeAny_call_builtin SO.slot.plain SO.entry (@W.check_slot (model prog w) _ _ ⟨hp, g, dr, tc, os⟩ "object.__setattr__" "object" "__setattr__" (.ref me) [.str fname tk, val] [] _ SO.kind SO.split isObj (SO.args (.ref me) (.str fname tk) val) ?_)
  have lm : W.Looks (model prog w) hp (mroOf (.ref C)) cd.mro := (W.looks_clsIn X hcd).andThen .now
  have lt : W.Looks (model prog w) hp (storeTaker? none) none := .now
  have lc : W.Looks (model prog w) hp (classData C) cd := W.looks_clsIn X hcd
  rw [W.osa_eq, refuse_eq]
  refine wpAny_bind (wpAny_bind (J.type.at (wpAny_bind (lm.at ?_))))
  rw [hpass]
  refine wpAny_pure (wpAny_bind (J.type.at (wpAny_bind ((W.looks_findIn X hno).at (wpAny_bind (lt.at ?_))))))
  show wpAny _ _ (storeInOwnDict (.ref me) (.ref C) (.str fname tk) fname val false) _ _ _
  obtain ⟨c1, c2, c3, c4, c5, hd, c7, c8, c9, c10, c11⟩ := cd
  dsimp only at hdict
  subst hdict
  unfold storeInOwnDict ownDictForStores
  repeat (first | with_reducible refine store_in_new ?_ ?_ | with_reducible refine wpAny_loadPart_at hme ?_ | with_reducible refine lc.at ?_ | wp_step)
  · exact ⟨_, #[], _, (Heap.get?_update_ne _ _ _ _ apart.symm).trans (Heap.get?_push_at rfl rfl), rfl, fun e he => absurd he (by simp), fun _ => rfl⟩
  · intro h' tk' hn' hs
    have there : (hp.push { cls := .type "dict", data := .dict #[] }).get? me = some { cls := .ref C, data := .fields fv } := Heap.get?_push_of_some _ hme
    refine fin h' tk' hp.objs.size (fun b o hb ho => ?_) (Nat.le_refl _) apart.symm ?_ hn'
    · exact (hs.2 b (Nat.ne_of_lt (Heap.lt_size ho))).trans ((Heap.get?_update_ne _ _ _ _ hb).trans (Heap.get?_push_of_some _ ho))
    · exact (hs.2 me apart).trans (Heap.get?_update_self _ there rfl)
/-- .. a further one -/
theorem storeX2 {dx : Addr} {m0 : Str → Option Value} {nl : List Str} (X : K.In hp) (hme : hp.get? me = some { cls := .ref C, dict := some dx, data := .fields fv }) (hns : hp.Ns1 dx m0) (hw : Within m0 nl) (hz : nl.length ≤ 1000) (hcd : W.clsIn K C = some cd)
    (hpass : ∀ self : Value, refuseLoop self "__setattr__" cd.mro = pure ()) (hne : cd.mro.isEmpty = false) (hobj : cd.mro.contains (.type "object") = true) (hdict : cd.hasDict = true) (hno : W.findIn K (.ref C) fname = some none)
    (fin : ∀ h' tk', (∀ b o, b ≠ dx → hp.get? b = some o → h'.get? b = some o) → h'.Ns1 dx (fun y => if y = fname then some val else m0 y) → R (.ok (.ret .none)) ⟨h', g, dr, tk', os⟩) :
    codeAny (model prog w) A (.call (.builtin "object.__setattr__") ⟨[.ref me, .str fname tk, val], []⟩) R ⟨hp, g, dr, tc, os⟩ := by
  obtain ⟨oD, esD, epD, hoD, hdD, _⟩ := hns.count hw
  have J : W.InstAt hp me { cls := .ref C, dict := some dx, data := .fields fv } C (some oD) := ⟨hme, rfl, rfl, hoD⟩
  have SO := F.store_object
  have isObj : W.Looks (model prog w) hp (isInstance (.ref me) (.type "object")) true := J.type.andThen (W.looks_mroIn X (by unfold W.mroIn; rw [hcd, Option.bind_some, if_neg (by rw [hne]; decide), hobj]))
  refine codeAny_call_builtin SO.slot.plain SO.entry (@W.check_slot (model prog w) _ _ ⟨hp, g, dr, tc, os⟩ "object.__setattr__" "object" "__setattr__" (.ref me) [.str fname tk, val] [] _ SO.kind SO.split isObj (SO.args (.ref me) (.str fname tk) val) ?_)
  have lm : W.Looks (model prog w) hp (mroOf (.ref C)) cd.mro := (W.looks_clsIn X hcd).andThen .now
  have lt : W.Looks (model prog w) hp (storeTaker? none) none := .now
  have lc : W.Looks (model prog w) hp (classData C) cd := W.looks_clsIn X hcd
  rw [W.osa_eq, refuse_eq]
  refine wpAny_bind (wpAny_bind (J.type.at (wpAny_bind (lm.at ?_))))
  rw [hpass]
  refine wpAny_pure (wpAny_bind (J.type.at (wpAny_bind ((W.looks_findIn X hno).at (wpAny_bind (lt.at ?_))))))
  show wpAny _ _ (storeInOwnDict (.ref me) (.ref C) (.str fname tk) fname val false) _ _ _
  obtain ⟨c1, c2, c3, c4, c5, hd, c7, c8, c9, c10, c11⟩ := cd
  dsimp only at hdict
  subst hdict
  unfold storeInOwnDict ownDictForStores
  repeat (first | with_reducible refine PySem.OEX.store_in_old hns hw hz ?_ | with_reducible refine wpAny_loadPart_at hme ?_ | with_reducible refine lc.at ?_ | wp_step)
  intro h' tk' hn' hs
  exact fin h' tk' (fun b o hb ho => (hs.2 b hb).trans ho) hn'
end
end OexX
end PySem
namespace Hk
open PySem PySem.Spec PyProof.Rows L2 PySem.OexX
structure OexG (K : PySem.W.Frag) (C : Addr) : Prop where
  cls : ∃ nm q N bs bm sn sub ab col dd k0 k1 k2 k3 k5 newId, K.lookup C = some (excClassObj nm q C N bs bm true sn sub ab col dd k0 k1 k2 k3 k5 newId) ∧ MroX bm newId
  sa : PySem.W.findIn K (.ref C) "__setattr__" = some (some (.builtin "object.__setattr__"))
  exC : PySem.W.subIn K (.ref C) (.type "BaseException") = some true
  tyC : PySem.W.typeIn K (.ref C) = some (.type "type")
  kC : PySem.W.keepIn K (.ref C) = true
section
variable {X : Cx} {pins : List (Addr × Obj)} {σ : L2.St} {H : Hp} {s : Shared} {a C dx : Addr} {f : Str} {y : V} {u : Value} {fs : List (Str × V)} {Q : Unit → Shared → Prop} {E : Value → Shared → Prop} {A : Around}
theorem OexG.data {K : PySem.W.Frag} (T : OexG K C) : ∃ cd : ClassData, PySem.W.clsIn K C = some cd ∧ (∀ self : Value, refuseLoop self "__setattr__" cd.mro = pure ()) ∧ cd.mro.isEmpty = false ∧ cd.mro.contains (.type "object") = true ∧ cd.hasDict = true := by
  obtain ⟨nm, q, N, bs, bm, sn, sub, ab, col, dd, k0, k1, k2, k3, k5, newId, hC, hm⟩ := T.cls
  refine ⟨{ name := nm, bases := bs, mro := .ref C :: bm, ns := N, qualname := q, hasDict := true, slotNames := sn, subclasses := sub, abstract := ab, collection := col, hasDel := false }, ?_, fun self => ?_, rfl, ?_, rfl⟩
  · unfold PySem.W.clsIn
    rw [hC] <;> rfl
  · rw [refuseLoop_ref]
    exact hm.pass self
  · show (Value.ref C :: bm).contains (.type "object") = true
    rw [List.contains_cons, hm.obj, Bool.or_true]
theorem putX1 (T : OexG X.K C) (I : Inv X pins σ H s) (e : H a = some (exo a C none)) (hno : PySem.W.findIn X.K (.ref C) f = some none) (ry : RelV y u)
    (done : ∀ dx s', H dx = none → dx ≠ a → Inv X pins σ (upd (upd H dx (exd dx [(f, y)])) a (exo a C (some dx))) s' → Q () s') : wpAny (model X.prog X.w) A (setAttr (.ref a) f u) Q E s := by
  obtain ⟨cd, hcd, hpass, hne, hobj, hdict⟩ := T.data
  obtain ⟨t1, here⟩ := exo_at I.hok e
  obtain ⟨hp, g, dr, tc, os⟩ := s
  refine PySem.W.set_plain I.kIn (ox := { cls := .ref C, dict := none, data := .fields #[.ref t1, .none, .none, .none, .bool false, .none] }) (od := none) ⟨here, rfl, rfl, trivial⟩ T.sa ?_
  refine storeX1 I.kIn here hcd hpass hne hobj hdict hno (fun h' tk' dx stay big apart now ns1 => ?_)
  have fresh : H dx = none := I.hok.fresh big
  have old : ∀ {b : Addr} {o : Obj}, hp.get? b = some o → b ≠ dx := fun {b o} q => Nat.ne_of_lt (Nat.lt_of_lt_of_le (Heap.lt_size q) big)
  have notMe : ∀ {b : Addr}, H b = none → b ≠ a := fun {b} n z => by
    rw [z, e] at n
    cases n
  have step : Un X.fs [] H (upd (upd H dx (exd dx [(f, y)])) a (exo a C (some dx))) hp h' := {
    keep := fun b o q n _ _ => stay b o (notMe n) q
    slot := fun b o q n _ _ => ⟨o.slots, stay b o (notMe n) q⟩
    free := fun b o q n _ => by rw [upd_ne (notMe n), upd_ne (old q)]; exact n
    there := fun b o q _ => by
      by_cases hb : b = a
      · exact ⟨_, by rw [hb]; exact now⟩
      · exact ⟨o, stay b o hb q⟩
    tups := fun b xs q => by rw [upd_ne (at_ne e q exo_tup), upd_ne (ne_of_none q fresh)]; exact q
    frzs := fun b o v q => by rw [upd_ne (at_ne e q exo_frz), upd_ne (ne_of_none q fresh)]; exact q
    tbls := fun b ps q => ⟨#[], by rw [upd_ne (at_ne e q exo_tbl), upd_ne (ne_of_none q fresh), q]; simp⟩ }
  refine done dx _ fresh apart (I.un (t' := tk') step fun b o q => ?_)
  by_cases hb : b = a
  · subst hb
    rw [upd_same] at q
    cases q
    exact exo_ok now
  · rw [upd_ne hb] at q
    by_cases hd : b = dx
    · subst hd
      rw [upd_same] at q
      cases q
      exact exd_ok ns1 (relO_put (fs := []) ry fun g => True.intro)
    · rw [upd_ne hd] at q
      refine (I.hok b o q).stay (fun c v hc z => stay c v ?_ z) (fun c hc => ?_) (fun c xs hc => ?_)
      · rcases hc with hc | hc
        · rw [hc]
          exact hb
        · exact at_ne e hc exo_own
      · rw [upd_ne (at_ne e hc exo_own), upd_ne (ne_of_none hc fresh)]
        exact hc
      · rw [upd_ne (at_ne e hc exo_tup), upd_ne (ne_of_none hc fresh)]
        exact hc
theorem putX2 (T : OexG X.K C) (I : Inv X pins σ H s) (e : H a = some (exo a C (some dx))) (ed : H dx = some (exd dx fs)) (hl : fs.length ≤ 900) (hno : PySem.W.findIn X.K (.ref C) f = some none) (ry : RelV y u)
    (done : ∀ s', Inv X pins σ (upd H dx (exd dx ((f, y) :: fs))) s' → Q () s') : wpAny (model X.prog X.w) A (setAttr (.ref a) f u) Q E s := by
  obtain ⟨cd, hcd, hpass, hne, hobj, hdict⟩ := T.data
  obtain ⟨t1, here⟩ := exo_at I.hok e
  obtain ⟨mA, hns, rel⟩ := exd_at I.hok ed
  have within := within_of rel
  obtain ⟨hp, g, dr, tc, os⟩ := s
  obtain ⟨oD, _, _, hoD, _, _⟩ := hns.count within
  refine PySem.W.set_plain I.kIn (ox := { cls := .ref C, dict := some dx, data := .fields #[.ref t1, .none, .none, .none, .bool false, .none] }) (od := some oD) ⟨here, rfl, rfl, hoD⟩ T.sa ?_
  refine storeX2 I.kIn here hns within (by rw [List.length_map]; omega) hcd hpass hne hobj hdict hno (fun h' tk' stay ns1 => ?_)
  have isD : ∃ o, h'.get? dx = some o := by
    obtain ⟨o, _, _, e', _⟩ := ns1
    exact ⟨o, e'⟩
  exact done _ (I.write (t' := tk') (x := dx) (e := dx) (o := exd dx ((f, y) :: fs)) (by rw [ed]; exact True.intro) (.inl rfl) stay isD (exd_ok ns1 (relO_put ry rel)))
end
/-- self.f = e -/
def XstK (K : PySem.W.Frag) (f : Str) (y x : V) (H2 : Hp) (k : Hp → Prop) : Prop := ∃ a C : Addr, x = .ref a ∧ OexG K C ∧ PySem.W.findIn K (.ref C) f = some none ∧
  ((H2 a = some (exo a C none) ∧ ∀ dx, H2 dx = none → dx ≠ a → k (upd (upd H2 dx (exd dx [(f, y)])) a (exo a C (some dx)))) ∨
    ∃ (dx : Addr) (fs : List (Str × V)), H2 a = some (exo a C (some dx)) ∧ H2 dx = some (exd dx fs) ∧ fs.length ≤ 900 ∧ k (upd H2 dx (exd dx ((f, y) :: fs))))
def tXst (K : PySem.W.Frag) (f : Str) (to te : TE) : TS := fun D σ H => te σ H fun y H1 => to σ H1 fun x H2 => XstK K f y x H2 (D.nx σ)
/-- C(e, ..), a value -/
def XmkK (C : Addr) (sp : Sp) (vs : List V) (H1 : Hp) (Q : VK) : Prop := vs.length ≤ 1000 ∧ ∀ a, H1 a = none → sp (.ref a :: vs) (upd H1 a (exo a C none)) (fun v H2 => v = .non ∧ Q (.ref a) H2) (fun _ _ _ => False)
def tXmk (C : Addr) (sp : Sp) (ta : TA) : TE := fun σ H Q => ta σ H fun vs H1 => XmkK C sp vs H1 Q
/-- e.f -/
def XgK (K : PySem.W.Frag) (f : Str) (x : V) (H1 : Hp) (Q : VK) : Prop := ∃ (a C d : Addr) (fs : List (Str × V)) (v : V), x = .ref a ∧ H1 a = some (exo a C (some d)) ∧ H1 d = some (exd d fs) ∧ XfC K C ∧ PySem.W.findIn K (.ref C) f = some none ∧ fs.lookup f = some v ∧ Q v H1
def tXg (K : PySem.W.Frag) (te : TE) (f : Str) : TE := fun σ H Q => te σ H fun x H1 => XgK K f x H1 Q
/-- isinstance(e, c) -/
def rIsV (K : PySem.W.Frag) : List V → Hp → VK → Prop := fun xs H Q => ∃ (a C d : Addr) (fs : List (Str × V)) (c : V) (u : Value) (b : Bool), xs = [.ref a, c] ∧ H a = some (exo a C (some d)) ∧ H d = some (exd d fs) ∧ ExcC K C ∧ ClsV c u ∧ PySem.W.kitOne K (.ref C) u = some b ∧ Q (.bl b) H
section
variable {X : Cx} {o e : Expr} {es : List Expr} {to te : TE} {ta : TA} {f : Str} {p p' pos : Pos}
theorem ps_xst (ho : PE X o to) (he : PE X e te) (hs : swapsWith e (some (.Attribute o f p')) pos.line X.env = pure false := by rfl) : PS X (.Assign [.Attribute o f p'] e pos) (tXst X.K f to te) := by
  refine ⟨fun pins s σ H D I h => ?_⟩
  refine plainObj_wpAny_Assign_Attribute (thn (he.run pins s σ H _ I h) fun v s1 ⟨y, H1, I1, r1, q1⟩ => thn (ho.run pins s1 σ H1 _ I1 q1) fun u s2 ⟨x, H2, I2, r2, a, C, ex, T, hno, q⟩ => ?_) hs
  subst ex
  obtain rfl : u = Value.ref a := r2
  rcases q with ⟨ea, q⟩ | ⟨dx, fs, ea, ed, hl, q⟩
  · exact putX1 T I2 ea hno r1 fun dx s' n ne J => ⟨σ, _, J, q dx n ne⟩
  · exact putX2 T I2 ea ed hl hno r1 fun s' J => ⟨σ, _, J, q⟩
theorem pe_xmk {CX : CXT} {x : Str} {C fI : Addr} {k : Nat} {fd : FuncData} {ps : List Str} {sp : Sp} (T : OexG X.K C) (iC : PySem.W.findIn X.K (.ref C) "__init__" = some (some (.ref fI))) (tI : PySem.W.typeIn X.K (.ref fI) = some (.type "function"))
    (F1 : FnOk X.prog X.w X.K X.mg X.base CX k fI fd ps sp) (hr : Room (k + 1) X.A) (hb : Binds X.K fd ps []) (hx : Passes CX X (fun _ _ _ => False)) (hg : Gl X x) (hm : X.mg x = some (.ref C)) (ha : PA X (e :: es) ta)
    (hdb : (x == ("__debug__" : Str)) = false := by decide) (he : starEach (e :: es) X.env = (false, eval e X.env) :: starEach es X.env := by rfl) (hpl : (backTo pos (starEach es X.env)).any (·.1) = false := by rfl) :
    PE X (.Call (.Name x p) (e :: es) [] pos) (tXmk C sp ta) := by
  refine ⟨fun pins s σ H Q I h => ?_⟩
  obtain ⟨nm, q, N, bs, bm, sn, sub, ab, col, dd, k0, k1, k2, k3, k5, newId, hC, mx⟩ := T.cls
  obtain ⟨B, initId, bmB, FB, hT⟩ := mx.base
  refine wpAny_Call_Name_kw (ld_glob I hg hm ?_ hdb)
  refine PySem.W.callWith_K (h₀ := X.base) I.ok.mod.kin T.kC (thn (ha.run pos pins s σ H _ I h) fun us s1 ⟨vs, H1, I1, r1, hz, q1⟩ => ⟨I1.kIn, ?_⟩) he hpl
  show wpAny _ _ (call (.ref C) us) _ _ _
  obtain ⟨hp, g, dr, tk, os⟩ := s1
  have big : hp.objs.size ≤ hp.objs.size + 1 := Nat.le_succ _
  have new : H1 (hp.objs.size + 1) = none := I1.hok.fresh big
  have want := q1 (hp.objs.size + 1) new
  have stay : ∀ b o, hp.get? b = some o → ((hp.push (PySem.W.kdv_tup us)).push (PySem.HandSPX.excO C hp.objs.size)).get? b = some o := fun b o z => Heap.get?_push_of_some _ (Heap.get?_push_of_some _ z)
  have now : ((hp.push (PySem.W.kdv_tup us)).push (PySem.HandSPX.excO C hp.objs.size)).get? (hp.objs.size + 1) = some (PySem.HandSPX.excO C hp.objs.size) := by heap_get
  have I2 : Inv X pins σ (upd H1 (hp.objs.size + 1) (exo (hp.objs.size + 1) C none)) ⟨(hp.push (PySem.W.kdv_tup us)).push (PySem.HandSPX.excO C hp.objs.size), g, dr, tk, os⟩ :=
    I1.laid (t' := tk) (a := hp.objs.size + 1) (o := exo (hp.objs.size + 1) C none) (h' := (hp.push (PySem.W.kdv_tup us)).push (PySem.HandSPX.excO C hp.objs.size)) stay big (exo_ok now)
  have rr : Vals (V.ref (hp.objs.size + 1) :: vs) (Value.ref (hp.objs.size + 1) :: us) := .cons rfl r1
  have len : (Value.ref (hp.objs.size + 1) :: us ++ []).length = ps.length := by
    have z := rr.length
    rw [F1.len _ _ _ _ want] at z
    simpa using z.symm
  have lus : us.length ≤ sizeLine := by
    rw [← Paired.length r1, sizeLine_eq]
    omega
  have hbind := hb _ (Value.ref (hp.objs.size + 1) :: us) I2.kIn len
  rw [List.append_nil] at hbind
  refine wpAny_call (PySem.HandSPX.call_own FB hT (I1.kIn _ _ hC) (PySem.W.looks_findIn I1.kIn iC) (fun self => PySem.W.bind_fn I1.kIn self tI) lus
    (codeAny_mono (F1.run _ X.stack _ _ ⟨Value.ref (hp.objs.size + 1) :: us, []⟩ (Value.ref (hp.objs.size + 1) :: us) _ _ (fun _ _ _ => False) (hr.make C us []) (I2.env0.make C us []) hbind rr want) fun r s' back => ?_))
  cases r with
  | error er => exact hx pins σ _ _ er s' I2 back
  | ok fl =>
    cases fl with
    | ret u =>
      obtain ⟨v, H2, J, rv, ev, q2⟩ := I2.after back
      subst ev
      exact ⟨rv, ⟨.ref _, H2, J, rfl, q2⟩⟩
    | next => exact False.elim back
    | brk => exact False.elim back
    | cont => exact False.elim back
theorem exo_inst {P : Program} {w : World} {H : Hp} {h : Heap} {a C d : Addr} {fs : List (Str × V)} (hok : HOk P w H h) (ea : H a = some (exo a C (some d))) (ed : H d = some (exd d fs)) :
    ∃ (oe od : Obj) (mA : Str → Option Value), PySem.W.InstAt h a oe C (some od) ∧ (∀ f, PySem.W.lookIn f od = some (mA f)) ∧ ∀ f, RelO (fs.lookup f) (mA f) := by
  obtain ⟨t1, here⟩ := exo_at hok ea
  obtain ⟨mA, hns, rel⟩ := exd_at hok ed
  obtain ⟨od, ho, hl⟩ := lookIn_ns hns
  exact ⟨_, od, mA, ⟨here, rfl, rfl, ho⟩, hl, rel⟩
theorem pe_xg {K : PySem.W.Frag} (he : PE X e te) (hk : X.K = K := by rfl) (hb : attributeBase e f X.env (eval e X.env) = eval e X.env := by rfl) : PE X (.Attribute e f pos) (tXg K te f) := by
  subst hk
  refine ⟨fun pins s σ H Q I h => ?_⟩
  refine attr_of hb (thn (he.run pins s σ H _ I h) fun u s1 hh => ?_)
  obtain ⟨x, H1, I1, rx, a, C, d, fs, v, ex, ea, ed, T, hno, l, q⟩ := hh
  subst ex
  obtain rfl : u = Value.ref a := rx
  obtain ⟨oe, od, mA, J, hl, rel⟩ := exo_inst I1.hok ea ed
  obtain ⟨u, hu, ru⟩ := RelO.some_of (v := v) (o := mA f) (by rw [← l]; exact rel f)
  exact HandSPX.exc_get I1.kIn J T.ga T.gg T.exC (PySem.W.findObj_own T.hdC hno rfl (by rw [hl, hu])) (handed_of ru) ⟨v, H1, I1.tok _, ru, q⟩
theorem call_isV {K : PySem.W.Frag} (hk : X.K = K := by rfl) : CallR X (.builtin "isinstance") (rIsV K) := by
  subst hk
  intro pins s σ H xs us Q I r h
  obtain ⟨a, C, d, fs, c, u, b, ex, ea, ed, G, k, e, q⟩ := h
  subst ex
  obtain ⟨u1, u2, rfl, r1, r2⟩ := vals2 r
  cases (show u1 = Value.ref a from r1)
  have e2 := k.eq r2
  subst e2
  obtain ⟨oe, od, mA, J, hl, rel⟩ := exo_inst I.hok ea ed
  have hcl : (PySem.W.clsIn X.K C).isSome = true := by
    obtain ⟨cd, h1, _⟩ := PySem.W.any_some G.hd
    rw [h1]
    rfl
  exact PySem.W.kia_one (PySem.W.kitx_exc hcl G.hg G.hk G.hs G.ha G.hn G.ht G.hm) I.kIn J e (fun z => nomatch z) fun tk => ⟨.bl b, H, I.tok tk, rfl, q⟩
end
section
variable {K : PySem.W.Frag} {σ : L2.St} {H : Hp} {Q : VK} {te to : TE} {ta : TA} {f f2 : Str} {C a d : Addr} {sp : Sp} {nx bk ct : L2.St → Hp → Prop} {rt : VK} {v v2 : V}
theorem rd_xst (h : te σ H fun y H1 => to σ H1 fun x H2 => XstK K f y x H2 (nx σ)) : tXst K f to te ⟨nx, rt, bk, ct⟩ σ H := h
theorem rd_xmk (h : ta σ H fun vs H1 => XmkK C sp vs H1 Q) : tXmk C sp ta σ H Q := h
theorem rd_xg (h : te σ H fun x H1 => XgK K f x H1 Q) : tXg K te f σ H Q := h
/-- __init__(self, x): self.f = x; __init__(self, x, y): self.f = x; self.g = y -/
def sp_xe1 (C : Addr) (f : Str) : Sp := fun vs H Q _ => ∃ (a : Addr) (v : V), vs = [.ref a, v] ∧ H a = some (exo a C none) ∧ ∀ dx, H dx = none → dx ≠ a → Q .non (upd (upd H dx (exd dx [(f, v)])) a (exo a C (some dx)))
def sp_xe2 (C : Addr) (f g : Str) : Sp := fun vs H Q _ => ∃ (a : Addr) (v w : V), vs = [.ref a, v, w] ∧ H a = some (exo a C none) ∧ ∀ dx, H dx = none → dx ≠ a → Q .non (upd (upd (upd H dx (exd dx [(f, v)])) a (exo a C (some dx))) dx (exd dx [(g, w), (f, v)]))
/-- an error stands at a, with these fields -/
def ErrAt (H : Hp) (C a : Addr) (fs : List (Str × V)) : Prop := ∃ d, H a = some (exo a C (some d)) ∧ H d = some (exd d fs)
theorem ErrAt.mono {H1 : Hp} {fs : List (Str × V)} (h : ErrAt H C a fs) (e : Same H H1) : ErrAt H1 C a fs := by
  obtain ⟨d, h1, h2⟩ := h
  exact ⟨d, e _ _ h1, e _ _ h2⟩
/-- a new error, frozen -/
theorem mk_xe1 {F : Hp} (fh : Same F H) (k : ∀ F' H' a, Grow [] F H F' H' → H a = none → ErrAt F' C a [(f, v)] → Q (.ref a) H') : XmkK C (sp_xe1 C f) [v] H Q := by
  refine ⟨by simp, fun a ha => ⟨a, v, rfl, upd_same, fun dx hdx hne => ⟨rfl, ?_⟩⟩⟩
  rw [upd_ne hne] at hdx
  have e : upd (upd (upd H a (exo a C none)) dx (exd dx [(f, v)])) a (exo a C (some dx)) = upd (upd H dx (exd dx [(f, v)])) a (exo a C (some dx)) := by
    funext b
    by_cases hb : b = a
    · rw [hb, upd_same, upd_same]
    · rw [upd_ne hb, upd_ne hb]
      by_cases hd : b = dx
      · rw [hd, upd_same, upd_same]
      · rw [upd_ne hd, upd_ne hd, upd_ne hb]
  rw [e]
  have g1 : Grow [] F H (upd F dx (exd dx [(f, v)])) (upd H dx (exd dx [(f, v)])) := (Grow.refl fh).new hdx
  have ha1 : upd H dx (exd dx [(f, v)]) a = none := upd_oldN hne.symm ha
  exact k _ _ a (g1.new ha1) ha ⟨dx, upd_same, upd_old hne upd_same⟩
theorem mk_xe2 {F : Hp} (fh : Same F H) (k : ∀ F' H' a, Grow [] F H F' H' → H a = none → ErrAt F' C a [(f2, v2), (f, v)] → Q (.ref a) H') : XmkK C (sp_xe2 C f f2) [v, v2] H Q := by
  refine ⟨by simp, fun a ha => ⟨a, v, v2, rfl, upd_same, fun dx hdx hne => ⟨rfl, ?_⟩⟩⟩
  rw [upd_ne hne] at hdx
  have e : upd (upd (upd (upd H a (exo a C none)) dx (exd dx [(f, v)])) a (exo a C (some dx))) dx (exd dx [(f2, v2), (f, v)]) = upd (upd H dx (exd dx [(f2, v2), (f, v)])) a (exo a C (some dx)) := by
    funext b
    by_cases hd : b = dx
    · rw [hd, upd_same, upd_ne hne, upd_same]
    · by_cases hb : b = a
      · rw [hb, upd_ne hne.symm, upd_same, upd_same]
      · rw [upd_ne hd, upd_ne hb, upd_ne hd, upd_ne hb, upd_ne hb, upd_ne hd]
  rw [e]
  have g1 : Grow [] F H (upd F dx (exd dx [(f2, v2), (f, v)])) (upd H dx (exd dx [(f2, v2), (f, v)])) := (Grow.refl fh).new hdx
  have ha1 : upd H dx (exd dx [(f2, v2), (f, v)]) a = none := upd_oldN hne.symm ha
  exact k _ _ a (g1.new ha1) ha ⟨dx, upd_same, upd_old hne upd_same⟩
theorem rd_xgK {fs : List (Str × V)} (h : ErrAt H C a fs) (T : XfC K C) (hno : PySem.W.findIn K (.ref C) f = some none) (l : fs.lookup f = some v) (q : Q v H) : XgK K f (.ref a) H Q := by
  obtain ⟨d, h1, h2⟩ := h
  exact ⟨a, C, d, fs, v, rfl, h1, h2, T, hno, l, q⟩
theorem rd_isV {fs : List (Str × V)} {c : V} {u : Value} {b : Bool} (h : ErrAt H C a fs) (G : ExcC K C) (k : ClsV c u) (e : PySem.W.kitOne K (.ref C) u = some b) (q : Q (.bl b) H) : rIsV K [.ref a, c] H Q := by
  obtain ⟨d, h1, h2⟩ := h
  exact ⟨a, C, d, fs, c, u, b, rfl, h1, h2, G, k, e, q⟩
end
end Hk

/-! A written dict with int keys; comprehensions over texts; dict comprehensions; bags of three numbers. -/
namespace Hk
open PySem PySem.Spec PyProof.Rows L2
/-! ### d[i], d a written dict {int: ..} -/
def EntsI : List DictEntry → List (Int × Addr) → Prop
  | [], [] => True
  | e :: es, (i, a) :: r => (∃ t, e.key = .int i t) ∧ e.hash = hashInt i ∧ e.val = .ref a ∧ EntsI es r
  | _, _ => False
def KDictI (K : PySem.W.Frag) (d : Addr) (kvs : List (Int × Addr)) : Prop := ∃ es n, K.lookup d = some ⟨.type "dict", none, .dict es n, #[]⟩ ∧ EntsI es.toList kvs
theorem entsI_keys {prog : Program} {w : World} : ∀ {es : List DictEntry} {kvs : List (Int × Addr)}, EntsI es kvs → ∀ e ∈ es, ∃ k, (intKind prog w).is k e.key = true ∧ e.hash = (intKind prog w).hash k
  | [], [], _, e, he => by cases he
  | e0 :: es, (i, a) :: r, h, e, he => by
    obtain ⟨⟨t, h1⟩, h2, _, h4⟩ := h
    rcases List.mem_cons.mp he with rfl | he
    · exact ⟨i, by rw [h1]; show (i == i) = true; simp, h2⟩
    · exact entsI_keys h4 e he
  | [], _ :: _, h, _, _ => h.elim
  | _ :: _, [], h, _, _ => h.elim
theorem entsI_find : ∀ {es : List DictEntry} {kvs : List (Int × Addr)} {k : Int} {a : Addr}, EntsI es kvs → kvs.lookup k = some a → (es.find? fun e => Value.isInt k e.key).map (·.val) = some (.ref a)
  | [], [], _, _, _, h => by cases h
  | e0 :: es, (i, b) :: r, k, a, h, hl => by
    obtain ⟨⟨t, h1⟩, _, h3, h4⟩ := h
    by_cases e : k = i
    · subst e
      rw [List.lookup_cons_self] at hl
      cases hl
      have : Value.isInt k e0.key = true := by rw [h1]; show (k == k) = true; simp
      rw [List.find?_cons_of_pos (p := fun e : DictEntry => Value.isInt k e.key) this]
      show some e0.val = _
      rw [h3]
    · rw [List.lookup_cons] at hl
      have ne : (k == i) = false := by simp [e]
      rw [ne] at hl
      have : ¬ Value.isInt k e0.key = true := by
        rw [h1]
        show ¬ (i == k) = true
        have e' : ¬ i = k := fun z => e z.symm
        simp [e']
      rw [List.find?_cons_of_neg (p := fun e : DictEntry => Value.isInt k e.key) this]
      exact entsI_find h4 hl
  | [], _ :: _, _, _, h, _ => h.elim
  | _ :: _, [], _, _, h, _ => h.elim
theorem kdI_map {K : PySem.W.Frag} {prog : Program} {w : World} {h : Heap} {d : Addr} {kvs : List (Int × Addr)} (X : K.In h) (D : KDictI K d kvs) : ∃ f, h.MapOf (intKind prog w) d f ∧ ∀ k a, kvs.lookup k = some a → f k = some (.ref a) := by
  obtain ⟨es, n, hl, he⟩ := D
  refine ⟨fun k => findBy Value.isInt es k, ⟨_, es, n, X _ _ hl, ⟨rfl, rfl, rfl⟩, rfl, fun e h => entsI_keys he e (Array.mem_toList_iff.mpr h), fun _ => rfl⟩, fun k a hk => ?_⟩
  obtain ⟨l⟩ := es
  show (Array.find? _ _).map _ = _
  rw [List.find?_toArray]
  exact entsI_find he hk
section
variable {X : Cx} {K : PySem.W.Frag} {o i : Expr} {to ti : TE} {pos : Pos} {d : Addr} {kvs : List (Int × Addr)}
def tKI (d : Addr) (kvs : List (Int × Addr)) (to ti : TE) : TE := fun σ H Q => to σ H fun x H1 => ti σ H1 fun y H2 => ∃ (k : Int) (a : Addr), x = .ref d ∧ y = .int k ∧ kvs.lookup k = some a ∧ Q (.ref a) H2
theorem pe_kdI (D : KDictI K d kvs) (ho : PE X o to) (hi : PE X i ti) (hs : NoSl i) (hK : X.K = K := by rfl) : PE X (.Subscript o i pos) (tKI d kvs to ti) := by
  subst hK
  refine ⟨fun pins s σ H Q I h => ?_⟩
  refine subD_of PySem.F.slot_dict_getitem.lookup hs (thn (ho.run pins s σ H _ I h) fun u s1 ⟨x, H1, I1, rx, q1⟩ => thn (hi.run pins s1 σ H1 _ I1 q1) fun iv s2 ⟨y, H2, I2, ry, k, a, ex, ey, hk, q2⟩ => ?_)
  subst ex ey
  obtain rfl : u = Value.ref d := rx
  obtain ⟨t, rfl⟩ := ry
  obtain ⟨f, hm, hf⟩ := kdI_map (prog := X.prog) (w := X.w) I2.kIn D
  refine ⟨hm.typeIs, wpAny_getItem_of (knd := intKind X.prog X.w) (k := k) ?_ hm (hf k a hk) ⟨.ref a, H2, I2.tok _, rfl, q2⟩⟩
  show (k == k) = true
  simp
theorem rd_kdI {σ : L2.St} {H : Hp} {Q : VK} (h : to σ H fun x H1 => ti σ H1 fun y H2 => ∃ (k : Int) (a : Addr), x = .ref d ∧ y = .int k ∧ kvs.lookup k = some a ∧ Q (.ref a) H2) : tKI d kvs to ti σ H Q := h
end
theorem rd_chain {r r' : R2} {ta tb tc : TE} {σ : L2.St} {H : Hp} {Q : VK} (h : ta σ H fun x H1 => tb σ H1 fun y H2 => r x y H2 fun z H3 => ∃ k, z = .bl k ∧ (if k = true then tc σ H3 fun w' H4 => r' y w' H4 Q else Q (.bl false) H3)) : tChain r r' ta tb tc σ H Q := h
/-! ### comprehensions over a text -/
section
variable {K : PySem.W.Frag} {σ : L2.St} {F H : Hp} {g : TG} {tt : TT} {te : TE} {vs : List Nat} {Q : VK}
theorem lcPS {l : List Nat} (A : Nat → Hp → List V → Prop) (fh : Same F H) (hz : l.length ≤ 100000)
    (a0 : A 0 F []) (al : ∀ i F' acc, A i F' acc → acc.length ≤ i) (am : ∀ i F1 F2 acc, Same F1 F2 → A i F1 acc → A i F2 acc)
    (turn : ∀ (i c : Nat) F1 H1 acc, l[i]? = some c → Grow [] F H F1 H1 → A i F1 acc → ∀ (Done : Hp → Prop) (Kept : VK), (∀ F2 H2, Grow [] F1 H1 F2 H2 → A (i + 1) F2 acc → Done H2) →
      (∀ F2 H2 y, Grow [] F1 H1 F2 H2 → A (i + 1) F2 (acc ++ [y]) → Kept y H2) →
      g (.str (tx [c])) (wipe σ vs) H1 fun σ2 H2 => wipe σ2 vs = wipe σ vs ∧ tt σ2 H2 fun b H3 => if b = true then te σ2 H3 Kept else Done H3)
    (q : ∀ F' H' D acc, Grow [] F H F' H' → H D = none → Hold F' H' D (.lst acc) → A l.length F' acc → Q (.ref D) H') : LcK (Its (tx l)) g tt te vs σ H Q := by
  have hl : (tx l).cps.size = l.length := by simp [tx]
  refine lcG (n := l.length) (X := fun i x => ∃ c, l[i]? = some c ∧ x = .str (tx [c])) A (fun _ _ => True) fh hz (fun H' s => by show (tx l).cps.size ≤ l.length; rw [hl]; exact Nat.le_refl _) (fun i H' s hi => by show i < (tx l).cps.size; rw [hl]; exact hi)
    (fun i H1 x H2 hi s1 y => ?_) a0 trivial (fun _ _ _ _ _ _ _ => trivial) al am
    (fun i x F1 H1 acc hi hx' g1 _ a1 Done Kept hd hk => ?_)
    (fun _ _ => by simp) fun F' H' D acc g' _ n h a' => q F' H' D acc g' n h a'
  · obtain ⟨e, c, hc, rfl⟩ := y
    exact ⟨e, c, by simpa [tx] using hc, rfl⟩
  · obtain ⟨c, hc, rfl⟩ := hx'
    exact turn i c F1 H1 acc hc g1 a1 Done Kept (fun F2 H2 g2 a2 => hd F2 H2 g2 trivial a2) fun F2 H2 y g2 a2 => hk F2 H2 y g2 trivial a2
def IStr (v : V) (H : Hp) (R : It → Hp → Prop) : Prop := ∃ x, v = .str x ∧ R (Its x) H
theorem rd_iStr {te : TE} {R : It → Hp → Prop} (h : te σ H fun v H1 => IStr v H1 R) : iStr te σ H R := h
theorem rd_IStr {x : Str} {R : It → Hp → Prop} (h : R (Its x) H) : IStr (.str x) H R := ⟨x, rfl, h⟩
end
/-! ### dict comprehensions over a frozen list -/
section
variable {K : PySem.W.Frag} {σ : L2.St} {F H : Hp} {g : TG} {tt : TT} {tk tv : TE} {vs : List Nat} {Q : VK} {wi : TI}
def DcK (J : It) (g : TG) (tt : TT) (tk tv : TE) (vs : List Nat) (σ : L2.St) (H1 : Hp) (Q : VK) : Prop := ∀ D, H1 D = none → ∃ W : Nat → Nat → Hp → Prop, (∃ m, W 0 m (upd H1 D (.dK []))) ∧ ∀ i m H, W i m H →
  (J.stop i H ∧ Q (.ref D) H) ∨ (J.go i H ∧ ∃ Nx : Hp → Prop, (∀ H', Nx H' → ∃ m', m' < m ∧ W (i + 1) m' H') ∧ ∀ x H', J.yld i H x H' → g x (wipe σ vs) H' fun σ2 H2 => wipe σ2 vs = wipe σ vs ∧ tt σ2 H2 fun b H3 =>
    if b = true then tk σ2 H3 fun y H4 => tv σ2 H4 fun z H5 => ∃ kvs k, y = kV k ∧ H5 D = some (.dK kvs) ∧ kvs.length < sizeLine ∧ Nx (upd H5 D (.dK (putK kvs k z))) else Nx H3)
theorem rd_dc (h : wi σ H fun J H1 => DcK J g tt tk tv vs σ H1 Q) : tDc wi g tt tk tv vs σ H Q := h
theorem dcPL {a : Addr} {xs : List V} (A : Nat → Hp → List (Key × V) → Prop) (fh : Same F H) (hx : SqL K F a xs) (hz : xs.length ≤ 100000)
    (a0 : A 0 F []) (al : ∀ i F' kvs, A i F' kvs → kvs.length ≤ i) (am : ∀ i F1 F2 kvs, Same F1 F2 → A i F1 kvs → A i F2 kvs)
    (turn : ∀ i x F1 H1 kvs, xs[i]? = some x → Grow [] F H F1 H1 → A i F1 kvs → ∀ (Kept : V → V → Hp → Prop),
      (∀ F2 H2 k z, Grow [] F1 H1 F2 H2 → A (i + 1) F2 (putK kvs k z) → Kept (kV k) z H2) →
      g x (wipe σ vs) H1 fun σ2 H2 => wipe σ2 vs = wipe σ vs ∧ tt σ2 H2 fun b H3 => b = true ∧ tk σ2 H3 fun y H4 => tv σ2 H4 fun z H5 => Kept y z H5)
    (q : ∀ F' H' D kvs, Grow [] F H F' H' → H D = none → Hold F' H' D (.dK kvs) → A xs.length F' kvs → Q (.ref D) H') (mono : ∀ (P1 P2 : Bool → Hp → Prop) σ H, (∀ b H', P1 b H' → P2 b H') → tt σ H P1 → tt σ H P2) (gm : ∀ (P1 P2 : L2.St → Hp → Prop) x σ H, (∀ s H', P1 s H' → P2 s H') → g x σ H P1 → g x σ H P2)
    (km : ∀ (P1 P2 : V → Hp → Prop) σ H, (∀ v H', P1 v H' → P2 v H') → tk σ H P1 → tk σ H P2) (vm : ∀ (P1 P2 : V → Hp → Prop) σ H, (∀ v H', P1 v H' → P2 v H') → tv σ H P1 → tv σ H P2) : DcK (Itl K a) g tt tk tv vs σ H Q := by
  intro D hD
  have fD : F D = none := fh.free hD
  refine ⟨fun i m H' => m = xs.length - i ∧ i ≤ xs.length ∧ ∃ F' kvs, Grow [] F H F' H' ∧ Hold F' H' D (.dK kvs) ∧ A i F' kvs, ⟨xs.length, by simp, Nat.zero_le _, F, [], (Grow.refl fh).newO hD, Hold.new fh hD, a0⟩, ?_⟩
  rintro i m H1 ⟨rfl, hi, F1, kvs, g1, d1, a1⟩
  have s1 : Same F H1 := g1.ff.trans g1.fh
  by_cases hlt : i < xs.length
  · refine .inr ⟨⟨xs, xs[i], s1.seq hx, by simp [hlt]⟩, fun H' => i + 1 ≤ xs.length ∧ ∃ F' kvs, Grow [] F H F' H' ∧ Hold F' H' D (.dK kvs) ∧ A (i + 1) F' kvs, fun H' p' => ⟨xs.length - (i + 1), by omega, rfl, p'⟩, fun x H2 y => ?_⟩
    obtain ⟨rfl, y⟩ := y
    have hxi := y xs (s1.seq hx)
    have t := turn i x F1 H2 kvs hxi g1 a1 (fun y z H5 => ∃ kvs k, y = kV k ∧ H5 D = some (.dK kvs) ∧ kvs.length < sizeLine ∧ (i + 1 ≤ xs.length ∧ ∃ F' kvs', Grow [] F H F' (upd H5 D (.dK (putK kvs k z))) ∧ Hold F' (upd H5 D (.dK (putK kvs k z))) D (.dK kvs') ∧ A (i + 1) F' kvs')) (fun F2 H3 k z g2 a2 => ?_)
    · refine gm _ _ _ _ _ (fun σ2 H3 h => ⟨h.1, mono _ _ _ _ (fun b H4 hb => ?_) h.2⟩) t
      rw [if_pos hb.1]
      exact hb.2
    · have d2 := d1.go0 g2
      refine ⟨kvs, k, rfl, d2.h, ?_, hlt, F2, _, (g1.trans g2).mut d2.f (.inr hD), d2.put, a2⟩
      have := al _ _ _ a1
      rw [sizeLine_eq]
      omega
  · have e : i = xs.length := by omega
    subst e
    exact .inl ⟨⟨xs, s1.seq hx, Nat.le_refl _⟩, q F1 H1 D kvs g1 hD d1 a1⟩
end
/-! ### bags of three numbers -/
structure Bag3 (F H : Hp) (b : Addr) : Prop where
  fh : Same F H
  fb : F b = none
  hb : ∃ d m c : Int, 0 ≤ c ∧ c < 2 ^ 100 ∧ H b = some (.lst [.int d, .int m, .int c])
section
variable {K : PySem.W.Frag} {F H F' H' : Hp} {b : Addr}
theorem Bag3.nn (h : Bag3 F H b) : H b ≠ none := by
  obtain ⟨d, m, c, _, _, e⟩ := h.hb
  rw [e]; intro z; cases z
theorem Bag3.go0 (h : Bag3 F H b) (g : Grow [] F H F' H') : Bag3 F' H' b := by
  obtain ⟨d, m, c, h1, h2, e⟩ := h.hb
  exact ⟨g.fh, (g.own b h.fb h.nn).1, d, m, c, h1, h2, g.hh b _ (by simp) e⟩
theorem Bag3.mut {p : Addr} {o u : HO} (h : Bag3 F H b) (hp : Hold F H p o) (n : p ≠ b) : Bag3 F (upd H p u) b := by
  obtain ⟨d, m, c, h1, h2, e⟩ := h.hb
  exact ⟨same_mut h.fh hp.f, h.fb, d, m, c, h1, h2, upd_old n.symm e⟩
end
section
variable {K : PySem.W.Frag} {σ : L2.St} {F H : Hp} {g : TG} {tt : TT} {te : TE} {vs : List Nat} {Q : VK}
theorem zup3 {b : Addr} (hb : Bag3 F H b) : ∀ F' H' D o, Bag3 F' H' b → H D = none → F' D = none → Bag3 F' (upd H' D o) b := fun F' H' D o z n f => by
  obtain ⟨d, m, c, h1, h2, e⟩ := z.hb
  exact ⟨same_mut z.fh f, z.fb, d, m, c, h1, h2, upd_old (fun q => hb.nn (q ▸ n)) e⟩
/-- with draws, over a frozen list -/
theorem lcB3L {a b : Addr} {xs : List V} (A : Nat → Hp → List V → Prop) (hb : Bag3 F H b) (hx : SqL K F a xs) (hz : xs.length ≤ 100000)
    (a0 : A 0 F []) (al : ∀ i F' acc, A i F' acc → acc.length ≤ i) (am : ∀ i F1 F2 acc, Same F1 F2 → A i F1 acc → A i F2 acc)
    (turn : ∀ i x F1 H1 acc, i < xs.length → xs[i]? = some x → Grow [b] F H F1 H1 → Bag3 F1 H1 b → A i F1 acc → ∀ (Done : Hp → Prop) (Kept : VK), (∀ F2 H2, Grow [b] F1 H1 F2 H2 → Bag3 F2 H2 b → A (i + 1) F2 acc → Done H2) →
      (∀ F2 H2 y, Grow [b] F1 H1 F2 H2 → Bag3 F2 H2 b → A (i + 1) F2 (acc ++ [y]) → Kept y H2) →
      g x (wipe σ vs) H1 fun σ2 H2 => wipe σ2 vs = wipe σ vs ∧ tt σ2 H2 fun b H3 => if b = true then te σ2 H3 Kept else Done H3)
    (q : ∀ F' H' D acc, Grow [b] F H F' H' → Bag3 F' H' b → H D = none → Hold F' H' D (.lst acc) → A xs.length F' acc → Q (.ref D) H') : LcK (Itl K a) g tt te vs σ H Q :=
  lcG (X := fun i x => xs[i]? = some x) A (fun F' H' => Bag3 F' H' b) hb.fh hz (fun H' s => ⟨xs, s.seq hx, Nat.le_refl _⟩) (fun i H' s hi => ⟨xs, xs[i], s.seq hx, by simp [hi]⟩)
    (fun i H1 x H2 hi s1 y => by obtain ⟨rfl, y⟩ := y; exact ⟨rfl, y xs (s1.seq hx)⟩) a0 hb (zup3 hb) al am turn
    (fun D n h => hb.nn (by rw [List.mem_singleton.mp h] at n; exact n)) q
/-- with draws, over range(n) -/
theorem lcB3R {n : Nat} {b : Addr} (A : Nat → Hp → List V → Prop) (hb : Bag3 F H b) (hz : n ≤ 100000)
    (a0 : A 0 F []) (al : ∀ i F' acc, A i F' acc → acc.length ≤ i) (am : ∀ i F1 F2 acc, Same F1 F2 → A i F1 acc → A i F2 acc)
    (turn : ∀ (i : Nat) F1 H1 acc, i < n → Grow [b] F H F1 H1 → Bag3 F1 H1 b → A i F1 acc → ∀ (Done : Hp → Prop) (Kept : VK), (∀ F2 H2, Grow [b] F1 H1 F2 H2 → Bag3 F2 H2 b → A (i + 1) F2 acc → Done H2) →
      (∀ F2 H2 y, Grow [b] F1 H1 F2 H2 → Bag3 F2 H2 b → A (i + 1) F2 (acc ++ [y]) → Kept y H2) →
      g (.int (i : Int)) (wipe σ vs) H1 fun σ2 H2 => wipe σ2 vs = wipe σ vs ∧ tt σ2 H2 fun b H3 => if b = true then te σ2 H3 Kept else Done H3)
    (q : ∀ F' H' D acc, Grow [b] F H F' H' → Bag3 F' H' b → H D = none → Hold F' H' D (.lst acc) → A n F' acc → Q (.ref D) H') : LcK (Itr 0 n) g tt te vs σ H Q :=
  lcG (X := fun i x => x = .int (i : Int)) A (fun F' H' => Bag3 F' H' b) hb.fh hz (fun H' s => Nat.le_refl _) (fun i H' s hi => hi)
    (fun i H1 x H2 hi s1 y => rng_yld y) a0 hb (zup3 hb) al am (fun i x F1 H1 acc hi hx' => by subst hx'; exact turn i F1 H1 acc hi)
    (fun D n h => hb.nn (by rw [List.mem_singleton.mp h] at n; exact n)) q
end
end Hk

/-! x += y of lists, texts split at a sign, xs[::-1]. -/
namespace Hk
open PySem PySem.Spec PyProof.Rows L2
section
variable {K : PySem.W.Frag} {σ : L2.St} {F H : Hp} {Q : VK} {te : TE} {ti : TIp} {nx bk ct : L2.St → Hp → Prop} {rt : VK} {n : Nat} {v : V}
theorem rd_augN (e : σ[n]? = some (some v)) (h : te σ H fun y H1 => ti v y H1 fun z H2 => nx (σ.set n (some z)) H2) : tAug n te ti ⟨nx, rt, bk, ct⟩ σ H := ⟨v, e, h⟩
theorem rd_ext2 {l b : Addr} {xs zs : List V} (h1 : H l = some (.lst xs)) (h2 : H b = some (.lst zs)) (hz : xs.length + zs.length ≤ 100000) (q : Q (.ref l) (upd H l (.lst (xs ++ zs)))) : rExt2 (.ref l) (.ref b) H Q := ⟨l, b, xs, zs, rfl, rfl, h1, h2, sz_of hz, q⟩
def RevK (K : PySem.W.Frag) (x : V) (H1 : Hp) (Q : VK) : Prop := ∃ a xs, x = .ref a ∧ SqL K H1 a xs ∧ ∀ p, H1 p = none → Q (.ref p) (upd H1 p (.lst xs.reverse))
theorem rd_revL (h : te σ H fun x H1 => RevK K x H1 Q) : tRevL K te σ H Q := h
theorem new_rev {r : Addr} {xs : List V} (fh : Same F H) (h : SqL K H r xs) (k : ∀ F' H' p, Grow [] F H F' H' → H p = none → F' p = some (.lst xs.reverse) → Q (.ref p) H') : RevK K (.ref r) H Q :=
  ⟨r, xs, rfl, h, fun l hl => k (upd F l (.lst xs.reverse)) _ l ((Grow.refl fh).new hl) hl upd_same⟩
theorem pg_tupK {X : Cx} {pos : Pos} {es : List Expr} {k : Nat} {t : TGs} {n : Nat} (hc : X.calm = true) (h : PGs X es t) (hK : X.K = K := by rfl)
    (hn : (assignEach es X.env).length = n := by rfl) (hst : (assignEach es X.env).findIdx? (·.1) = none := by rfl) : PG X (.Tuple es k pos) (gTup K n t) := hK ▸ pg_tup hc h hn hst
/-- text.split(c), c one sign -/
theorem new_split {l : List Nat} {c : Nat} (fh : Same F H) (hc : c < 256) (hl : l.length ≤ 100000) (k : ∀ F' H' p, Grow [] F H F' H' → H p = none → F' p = some (.lst ((TL.spl [c] 0 [] l).map wd)) → Q (.ref p) H') : SplitK (.str (tx l)) [.str (tx [c])] H Q := by
  refine ⟨_, _, rfl, rfl, rfl, by rw [tx_len]; exact Nat.le_trans (by omega : l.length + 2 ≤ 100002) (by decide), fun p hp => ?_⟩
  have e : Txt.split (tx l) (tx [c]) = (TL.spl [c] 0 [] l).map tx := SX.split_S (a := l) (b := [c]) (by simp) (by simp [hc])
  rw [e, List.map_map]
  exact k (upd F p (.lst ((TL.spl [c] 0 [] l).map wd))) _ p ((Grow.refl fh).new hp) hp upd_same
end
end Hk

/-! list(text), xs.insert(i, y). -/
namespace Hk
open PySem PySem.Spec PyProof.Rows L2
section
variable {X : Cx}
def rListS : List V → Hp → VK → Prop := fun xs H Q => ∃ z : Str, xs = [.str z] ∧ z.cps.size ≤ sizeLine ∧ ∀ q, H q = none → Q (.ref q) (upd H q (.lst (z.cps.toList.map fun c => V.str ⟨#[c]⟩)))
theorem call_listS (hc : X.calm = true) : CallR X (.type "list") rListS := by
  intro pins s σ H xs us Q I rxs h
  obtain ⟨z, rfl, hz, q⟩ := h
  obtain ⟨u, rfl, ru⟩ := rxs.one
  obtain ⟨t, rfl⟩ := ru
  refine call_list_str (I.ok.hd hc) z t (fun h' tk acc c' hk e hi => ?_) hz
  refine ⟨.ref s.heap.objs.size, upd H s.heap.objs.size (.lst (z.cps.toList.map fun c => V.str ⟨#[c]⟩)), I.laid hk (Nat.le_refl _) ⟨by rw [List.length_map, Array.length_toList]; exact hz, acc.toList, c', ?_, by rw [Array.toArray_toList]; exact e⟩, rfl, q _ (I.hok.fresh (Nat.le_refl _))⟩
  refine vals_of_idx _ _ (by rw [List.length_map, Array.length_toList, Array.length_toList]; exact hi.1) fun j u hj => ?_
  obtain ⟨c, t', hc, rfl⟩ := hi.2 j u (by rw [← Array.getElem?_toList]; exact hj)
  exact ⟨.str ⟨#[c]⟩, by rw [List.getElem?_map, Array.getElem?_toList, hc]; rfl, ⟨_, rfl⟩⟩
def rInsert : V → List V → Hp → VK → Prop := fun x vs H Q => ∃ (l : Addr) (xs : List V) (i : Int) (y : V), x = .ref l ∧ vs = [.int i, y] ∧ H l = some (.lst xs) ∧ xs.length < sizeLine ∧ 0 ≤ i ∧ i < 2 ^ 63 ∧ Q .non (upd H l (.lst (xs.take i.toNat ++ [y] ++ xs.drop i.toNat)))
theorem mt_insertR : MtR X "list.insert" rInsert := mt_insert
end
section
variable {F H : Hp} {Q : VK}
theorem rd_listS {l : List Nat} (hl : l.length ≤ 100000) (q : ∀ p, H p = none → Q (.ref p) (upd H p (.lst ((l.map fun c => [c]).map wd)))) : rListS [.str (tx l)] H Q := by
  refine ⟨_, rfl, by show l.toArray.size ≤ sizeLine; rw [List.size_toArray]; exact sz_of hl, fun p hp => ?_⟩
  have e : (tx l).cps.toList.map (fun c => V.str ⟨#[c]⟩) = (l.map fun c => [c]).map wd := by
    rw [List.map_map]
    rfl
  rw [e]
  exact q p hp
theorem rd_insert {l : Addr} {xs : List V} {i : Nat} {y : V} (h : H l = some (.lst xs)) (hz : xs.length < 10000) (hi : i < 10000) (q : Q .non (upd H l (.lst (xs.take i ++ [y] ++ xs.drop i)))) : rInsert (.ref l) [.int (i : Nat), y] H Q :=
  ⟨l, xs, _, y, rfl, rfl, h, sz_lt (by omega), by omega, by omega, by rw [Int.toNat_natCast]; exact q⟩
end
end Hk

set_option maxHeartbeats 8000000
namespace Er
open PySem L2 Hk
def top (i : Nat) : Stmt := PySem.Challenge.pw_heirsback_k90_errors_of_the_package.main.body.getD i (.Pass ⟨0, 0, 0, 0⟩)
abbrev s_BadLibrary_init : Stmt := inClass (top 2) 0
theorem sc_BadLibrary_init : FnScope ["self", "at"] ["self", "at"] (defScope s_BadLibrary_init) := ⟨rfl, rfl, rfl, by decide +kernel, rfl, by decide +kernel, by decide +kernel⟩
abbrev s_BadWorld_init : Stmt := inClass (top 3) 0
theorem sc_BadWorld_init : FnScope ["self", "at"] ["self", "at"] (defScope s_BadWorld_init) := ⟨rfl, rfl, rfl, by decide +kernel, rfl, by decide +kernel, by decide +kernel⟩
abbrev s_BadValue_init : Stmt := inClass (top 4) 0
theorem sc_BadValue_init : FnScope ["self", "field"] ["self", "field"] (defScope s_BadValue_init) := ⟨rfl, rfl, rfl, by decide +kernel, rfl, by decide +kernel, by decide +kernel⟩
abbrev s_BadExpression_init : Stmt := inClass (top 5) 0
theorem sc_BadExpression_init : FnScope ["self", "at"] ["self", "at"] (defScope s_BadExpression_init) := ⟨rfl, rfl, rfl, by decide +kernel, rfl, by decide +kernel, by decide +kernel⟩
abbrev s_BadFamily_init : Stmt := inClass (top 6) 0
theorem sc_BadFamily_init : FnScope ["self", "word"] ["self", "word"] (defScope s_BadFamily_init) := ⟨rfl, rfl, rfl, by decide +kernel, rfl, by decide +kernel, by decide +kernel⟩
abbrev s_BadVirtue_init : Stmt := inClass (top 7) 0
theorem sc_BadVirtue_init : FnScope ["self", "word"] ["self", "word"] (defScope s_BadVirtue_init) := ⟨rfl, rfl, rfl, by decide +kernel, rfl, by decide +kernel, by decide +kernel⟩
abbrev s_BadMaker_init : Stmt := inClass (top 8) 0
theorem sc_BadMaker_init : FnScope ["self", "maker"] ["self", "maker"] (defScope s_BadMaker_init) := ⟨rfl, rfl, rfl, by decide +kernel, rfl, by decide +kernel, by decide +kernel⟩
abbrev s_NoClass_init : Stmt := inClass (top 9) 0
theorem sc_NoClass_init : FnScope ["self", "name"] ["self", "name"] (defScope s_NoClass_init) := ⟨rfl, rfl, rfl, by decide +kernel, rfl, by decide +kernel, by decide +kernel⟩
abbrev s_NoSign_init : Stmt := inClass (top 10) 0
theorem sc_NoSign_init : FnScope ["self", "sign"] ["self", "sign"] (defScope s_NoSign_init) := ⟨rfl, rfl, rfl, by decide +kernel, rfl, by decide +kernel, by decide +kernel⟩
abbrev s_TooMany_init : Stmt := inClass (top 11) 0
theorem sc_TooMany_init : FnScope ["self", "what"] ["self", "what"] (defScope s_TooMany_init) := ⟨rfl, rfl, rfl, by decide +kernel, rfl, by decide +kernel, by decide +kernel⟩
abbrev s_Unlike_init : Stmt := inClass (top 12) 0
theorem sc_Unlike_init : FnScope ["self", "at"] ["self", "at"] (defScope s_Unlike_init) := ⟨rfl, rfl, rfl, by decide +kernel, rfl, by decide +kernel, by decide +kernel⟩
abbrev s_Surplus_init : Stmt := inClass (top 13) 0
theorem sc_Surplus_init : FnScope ["self", "name", "many"] ["self", "name", "many"] (defScope s_Surplus_init) := ⟨rfl, rfl, rfl, by decide +kernel, rfl, by decide +kernel, by decide +kernel⟩
abbrev s_Lacking_init : Stmt := inClass (top 14) 0
theorem sc_Lacking_init : FnScope ["self", "name", "field"] ["self", "name", "field"] (defScope s_Lacking_init) := ⟨rfl, rfl, rfl, by decide +kernel, rfl, by decide +kernel, by decide +kernel⟩
abbrev s_Unknown_init : Stmt := inClass (top 15) 0
theorem sc_Unknown_init : FnScope ["self", "name", "field"] ["self", "name", "field"] (defScope s_Unknown_init) := ⟨rfl, rfl, rfl, by decide +kernel, rfl, by decide +kernel, by decide +kernel⟩
abbrev s_Failed_init : Stmt := inClass (top 16) 0
theorem sc_Failed_init : FnScope ["self", "at", "reason"] ["self", "at", "reason"] (defScope s_Failed_init) := ⟨rfl, rfl, rfl, by decide +kernel, rfl, by decide +kernel, by decide +kernel⟩
abbrev s_law_bag : Stmt := top 18
theorem sc_law_bag : FnScope ["_law_script", "_law_at", "_law_cell", "_law_digits"] ["_law_script", "_law_at"] (defScope s_law_bag) := ⟨rfl, rfl, rfl, by decide +kernel, rfl, by decide +kernel, by decide +kernel⟩
abbrev s_law_take : Stmt := top 19
theorem sc_law_take : FnScope ["_law_bag_here", "_law_many", "_law_digit", "_law_mixed"] ["_law_bag_here", "_law_many"] (defScope s_law_take) := ⟨rfl, rfl, rfl, by decide +kernel, rfl, by decide +kernel, by decide +kernel⟩
abbrev s_law_of : Stmt := top 20
theorem sc_law_of : FnScope ["_law_bag_here", "_law_some"] ["_law_bag_here", "_law_some"] (defScope s_law_of) := ⟨rfl, rfl, rfl, by decide +kernel, rfl, by decide +kernel, by decide +kernel⟩
abbrev s_law_thing : Stmt := top 21
theorem sc_law_thing : FnScope ["_law_bag_here", "_law_number"] ["_law_bag_here"] (defScope s_law_thing) := ⟨rfl, rfl, rfl, by decide +kernel, rfl, by decide +kernel, by decide +kernel⟩
abbrev s_law_letters : Stmt := top 22
theorem sc_law_letters : FnScope ["_law_bag_here", "_law_word", "_law_turn"] ["_law_bag_here"] (defScope s_law_letters) := ⟨rfl, rfl, rfl, by decide +kernel, rfl, by decide +kernel, by decide +kernel⟩
abbrev s_law_errors : Stmt := top 23
theorem sc_law_errors : FnScope ["_law_thing_here", "_law_number", "_law_one", "_law_two", "_law_first", "_law_last"] ["_law_thing_here", "_law_number", "_law_one", "_law_two"] (defScope s_law_errors) := ⟨rfl, rfl, rfl, by decide +kernel, rfl, by decide +kernel, by decide +kernel⟩
abbrev s_law_kinds : Stmt := top 24
theorem sc_law_kinds : FnScope ["_law_one", "_law_found"] ["_law_one"] (defScope s_law_kinds) := ⟨rfl, rfl, rfl, by decide +kernel, rfl, by decide +kernel, by decide +kernel⟩
abbrev s_law_field : Stmt := top 25
theorem sc_law_field : FnScope ["_law_one", "_law_word"] ["_law_one", "_law_word"] (defScope s_law_field) := ⟨rfl, rfl, rfl, by decide +kernel, rfl, by decide +kernel, by decide +kernel⟩
abbrev s_law_is : Stmt := top 26
theorem sc_law_is : FnScope ["_law_kept", "_law_given"] ["_law_kept", "_law_given"] (defScope s_law_is) := ⟨rfl, rfl, rfl, by decide +kernel, rfl, by decide +kernel, by decide +kernel⟩
abbrev s_law_under : Stmt := top 27
theorem sc_law_under : FnScope ["_law_one", "_law_found"] ["_law_one"] (defScope s_law_under) := ⟨rfl, rfl, rfl, by decide +kernel, rfl, by decide +kernel, by decide +kernel⟩
abbrev s_law_last_right : Stmt := top 28
theorem sc_law_last_right : FnScope ["_law_last", "_law_number", "_law_one", "_law_two"] ["_law_last", "_law_number", "_law_one", "_law_two"] (defScope s_law_last_right) := ⟨rfl, rfl, rfl, by decide +kernel, rfl, by decide +kernel, by decide +kernel⟩
abbrev s_law : Stmt := top 29
theorem sc_law : FnScope ["_law_script", "_law_at", "_law_bag_here", "_law_turn", "_law_thing_here", "_law_number", "_law_one", "_law_two", "_law_first", "_law_last", "_law_k", "_law_row", "_law_place", "_law_each"] ["_law_script"] (defScope s_law) := ⟨rfl, rfl, rfl, by decide +kernel, rfl, by decide +kernel, by decide +kernel⟩
structure Ad where
  f_BadLibrary_init : Addr
  fd_BadLibrary_init : FuncData
  f_BadWorld_init : Addr
  fd_BadWorld_init : FuncData
  f_BadValue_init : Addr
  fd_BadValue_init : FuncData
  f_BadExpression_init : Addr
  fd_BadExpression_init : FuncData
  f_BadFamily_init : Addr
  fd_BadFamily_init : FuncData
  f_BadVirtue_init : Addr
  fd_BadVirtue_init : FuncData
  f_BadMaker_init : Addr
  fd_BadMaker_init : FuncData
  f_NoClass_init : Addr
  fd_NoClass_init : FuncData
  f_NoSign_init : Addr
  fd_NoSign_init : FuncData
  f_TooMany_init : Addr
  fd_TooMany_init : FuncData
  f_Unlike_init : Addr
  fd_Unlike_init : FuncData
  f_Surplus_init : Addr
  fd_Surplus_init : FuncData
  f_Lacking_init : Addr
  fd_Lacking_init : FuncData
  f_Unknown_init : Addr
  fd_Unknown_init : FuncData
  f_Failed_init : Addr
  fd_Failed_init : FuncData
  f_law_bag : Addr
  fd_law_bag : FuncData
  f_law_take : Addr
  fd_law_take : FuncData
  f_law_of : Addr
  fd_law_of : FuncData
  f_law_thing : Addr
  fd_law_thing : FuncData
  f_law_letters : Addr
  fd_law_letters : FuncData
  f_law_errors : Addr
  fd_law_errors : FuncData
  f_law_kinds : Addr
  fd_law_kinds : FuncData
  f_law_field : Addr
  fd_law_field : FuncData
  f_law_is : Addr
  fd_law_is : FuncData
  f_law_under : Addr
  fd_law_under : FuncData
  f_law_last_right : Addr
  fd_law_last_right : FuncData
  f_law : Addr
  fd_law : FuncData
  C_HeirsbackError : Addr
  C_BadLibrary : Addr
  C_BadWorld : Addr
  C_BadValue : Addr
  C_BadExpression : Addr
  C_BadFamily : Addr
  C_BadVirtue : Addr
  C_BadMaker : Addr
  C_NoClass : Addr
  C_NoSign : Addr
  C_TooMany : Addr
  C_Unlike : Addr
  C_Surplus : Addr
  C_Lacking : Addr
  C_Unknown : Addr
  C_Failed : Addr
structure Txt (K : PySem.W.Frag) (mg : Str → Option Value) (a : Ad) : Prop where
  F_BadLibrary_init : Fun K "__init__" "BadLibrary.__init__" s_BadLibrary_init a.f_BadLibrary_init a.fd_BadLibrary_init
  b_BadLibrary_init : Binds K a.fd_BadLibrary_init ["self", "at"] []
  m_BadLibrary_init : Meth K a.C_BadLibrary "__init__" a.f_BadLibrary_init
  F_BadWorld_init : Fun K "__init__" "BadWorld.__init__" s_BadWorld_init a.f_BadWorld_init a.fd_BadWorld_init
  b_BadWorld_init : Binds K a.fd_BadWorld_init ["self", "at"] []
  m_BadWorld_init : Meth K a.C_BadWorld "__init__" a.f_BadWorld_init
  F_BadValue_init : Fun K "__init__" "BadValue.__init__" s_BadValue_init a.f_BadValue_init a.fd_BadValue_init
  b_BadValue_init : Binds K a.fd_BadValue_init ["self", "field"] []
  m_BadValue_init : Meth K a.C_BadValue "__init__" a.f_BadValue_init
  F_BadExpression_init : Fun K "__init__" "BadExpression.__init__" s_BadExpression_init a.f_BadExpression_init a.fd_BadExpression_init
  b_BadExpression_init : Binds K a.fd_BadExpression_init ["self", "at"] []
  m_BadExpression_init : Meth K a.C_BadExpression "__init__" a.f_BadExpression_init
  F_BadFamily_init : Fun K "__init__" "BadFamily.__init__" s_BadFamily_init a.f_BadFamily_init a.fd_BadFamily_init
  b_BadFamily_init : Binds K a.fd_BadFamily_init ["self", "word"] []
  m_BadFamily_init : Meth K a.C_BadFamily "__init__" a.f_BadFamily_init
  F_BadVirtue_init : Fun K "__init__" "BadVirtue.__init__" s_BadVirtue_init a.f_BadVirtue_init a.fd_BadVirtue_init
  b_BadVirtue_init : Binds K a.fd_BadVirtue_init ["self", "word"] []
  m_BadVirtue_init : Meth K a.C_BadVirtue "__init__" a.f_BadVirtue_init
  F_BadMaker_init : Fun K "__init__" "BadMaker.__init__" s_BadMaker_init a.f_BadMaker_init a.fd_BadMaker_init
  b_BadMaker_init : Binds K a.fd_BadMaker_init ["self", "maker"] []
  m_BadMaker_init : Meth K a.C_BadMaker "__init__" a.f_BadMaker_init
  F_NoClass_init : Fun K "__init__" "NoClass.__init__" s_NoClass_init a.f_NoClass_init a.fd_NoClass_init
  b_NoClass_init : Binds K a.fd_NoClass_init ["self", "name"] []
  m_NoClass_init : Meth K a.C_NoClass "__init__" a.f_NoClass_init
  F_NoSign_init : Fun K "__init__" "NoSign.__init__" s_NoSign_init a.f_NoSign_init a.fd_NoSign_init
  b_NoSign_init : Binds K a.fd_NoSign_init ["self", "sign"] []
  m_NoSign_init : Meth K a.C_NoSign "__init__" a.f_NoSign_init
  F_TooMany_init : Fun K "__init__" "TooMany.__init__" s_TooMany_init a.f_TooMany_init a.fd_TooMany_init
  b_TooMany_init : Binds K a.fd_TooMany_init ["self", "what"] []
  m_TooMany_init : Meth K a.C_TooMany "__init__" a.f_TooMany_init
  F_Unlike_init : Fun K "__init__" "Unlike.__init__" s_Unlike_init a.f_Unlike_init a.fd_Unlike_init
  b_Unlike_init : Binds K a.fd_Unlike_init ["self", "at"] []
  m_Unlike_init : Meth K a.C_Unlike "__init__" a.f_Unlike_init
  F_Surplus_init : Fun K "__init__" "Surplus.__init__" s_Surplus_init a.f_Surplus_init a.fd_Surplus_init
  b_Surplus_init : Binds K a.fd_Surplus_init ["self", "name", "many"] []
  m_Surplus_init : Meth K a.C_Surplus "__init__" a.f_Surplus_init
  F_Lacking_init : Fun K "__init__" "Lacking.__init__" s_Lacking_init a.f_Lacking_init a.fd_Lacking_init
  b_Lacking_init : Binds K a.fd_Lacking_init ["self", "name", "field"] []
  m_Lacking_init : Meth K a.C_Lacking "__init__" a.f_Lacking_init
  F_Unknown_init : Fun K "__init__" "Unknown.__init__" s_Unknown_init a.f_Unknown_init a.fd_Unknown_init
  b_Unknown_init : Binds K a.fd_Unknown_init ["self", "name", "field"] []
  m_Unknown_init : Meth K a.C_Unknown "__init__" a.f_Unknown_init
  F_Failed_init : Fun K "__init__" "Failed.__init__" s_Failed_init a.f_Failed_init a.fd_Failed_init
  b_Failed_init : Binds K a.fd_Failed_init ["self", "at", "reason"] []
  m_Failed_init : Meth K a.C_Failed "__init__" a.f_Failed_init
  F_law_bag : Fun K "_law_bag" "_law_bag" s_law_bag a.f_law_bag a.fd_law_bag
  b_law_bag : Binds K a.fd_law_bag ["_law_script", "_law_at"] []
  g_law_bag : mg "_law_bag" = some (.ref a.f_law_bag)
  F_law_take : Fun K "_law_take" "_law_take" s_law_take a.f_law_take a.fd_law_take
  b_law_take : Binds K a.fd_law_take ["_law_bag_here", "_law_many"] []
  g_law_take : mg "_law_take" = some (.ref a.f_law_take)
  F_law_of : Fun K "_law_of" "_law_of" s_law_of a.f_law_of a.fd_law_of
  b_law_of : Binds K a.fd_law_of ["_law_bag_here", "_law_some"] []
  g_law_of : mg "_law_of" = some (.ref a.f_law_of)
  F_law_thing : Fun K "_law_thing" "_law_thing" s_law_thing a.f_law_thing a.fd_law_thing
  b_law_thing : Binds K a.fd_law_thing ["_law_bag_here"] []
  g_law_thing : mg "_law_thing" = some (.ref a.f_law_thing)
  F_law_letters : Fun K "_law_letters" "_law_letters" s_law_letters a.f_law_letters a.fd_law_letters
  b_law_letters : Binds K a.fd_law_letters ["_law_bag_here"] []
  g_law_letters : mg "_law_letters" = some (.ref a.f_law_letters)
  F_law_errors : Fun K "_law_errors" "_law_errors" s_law_errors a.f_law_errors a.fd_law_errors
  b_law_errors : Binds K a.fd_law_errors ["_law_thing_here", "_law_number", "_law_one", "_law_two"] []
  g_law_errors : mg "_law_errors" = some (.ref a.f_law_errors)
  F_law_kinds : Fun K "_law_kinds" "_law_kinds" s_law_kinds a.f_law_kinds a.fd_law_kinds
  b_law_kinds : Binds K a.fd_law_kinds ["_law_one"] []
  g_law_kinds : mg "_law_kinds" = some (.ref a.f_law_kinds)
  F_law_field : Fun K "_law_field" "_law_field" s_law_field a.f_law_field a.fd_law_field
  b_law_field : Binds K a.fd_law_field ["_law_one", "_law_word"] []
  g_law_field : mg "_law_field" = some (.ref a.f_law_field)
  F_law_is : Fun K "_law_is" "_law_is" s_law_is a.f_law_is a.fd_law_is
  b_law_is : Binds K a.fd_law_is ["_law_kept", "_law_given"] []
  g_law_is : mg "_law_is" = some (.ref a.f_law_is)
  F_law_under : Fun K "_law_under" "_law_under" s_law_under a.f_law_under a.fd_law_under
  b_law_under : Binds K a.fd_law_under ["_law_one"] []
  g_law_under : mg "_law_under" = some (.ref a.f_law_under)
  F_law_last_right : Fun K "_law_last_right" "_law_last_right" s_law_last_right a.f_law_last_right a.fd_law_last_right
  b_law_last_right : Binds K a.fd_law_last_right ["_law_last", "_law_number", "_law_one", "_law_two"] []
  g_law_last_right : mg "_law_last_right" = some (.ref a.f_law_last_right)
  F_law : Fun K "law" "law" s_law a.f_law a.fd_law
  b_law : Binds K a.fd_law ["_law_script"] []
  g_law : mg "law" = some (.ref a.f_law)
  g_HeirsbackError : mg "HeirsbackError" = some (.ref a.C_HeirsbackError)
  ty_HeirsbackError : PySem.W.typeIn K (.ref a.C_HeirsbackError) = some (.type "type")
  ic_HeirsbackError : PySem.W.isClsIn K a.C_HeirsbackError = true
  sb_HeirsbackError : PySem.W.subIn K (.ref a.C_HeirsbackError) (.type "BaseException") = some true
  g_BadLibrary : mg "BadLibrary" = some (.ref a.C_BadLibrary)
  ty_BadLibrary : PySem.W.typeIn K (.ref a.C_BadLibrary) = some (.type "type")
  ox_BadLibrary : OexG K a.C_BadLibrary
  xt_BadLibrary : PySem.W.typeIn K (.ref a.f_BadLibrary_init) = some (.type "function")
  xf_BadLibrary : XfC K a.C_BadLibrary
  xc_BadLibrary : ExcC K a.C_BadLibrary
  me_BadLibrary : (PySem.W.clsIn K a.C_BadLibrary).map (·.mro) = some (.ref a.C_BadLibrary :: [.ref a.C_HeirsbackError, .type "ValueError", .type "Exception", .type "BaseException", .type "object"])
  no_BadLibrary_at : PySem.W.findIn K (.ref a.C_BadLibrary) "at" = some none
  g_BadWorld : mg "BadWorld" = some (.ref a.C_BadWorld)
  ty_BadWorld : PySem.W.typeIn K (.ref a.C_BadWorld) = some (.type "type")
  ox_BadWorld : OexG K a.C_BadWorld
  xt_BadWorld : PySem.W.typeIn K (.ref a.f_BadWorld_init) = some (.type "function")
  xf_BadWorld : XfC K a.C_BadWorld
  xc_BadWorld : ExcC K a.C_BadWorld
  me_BadWorld : (PySem.W.clsIn K a.C_BadWorld).map (·.mro) = some (.ref a.C_BadWorld :: [.ref a.C_HeirsbackError, .type "ValueError", .type "Exception", .type "BaseException", .type "object"])
  no_BadWorld_at : PySem.W.findIn K (.ref a.C_BadWorld) "at" = some none
  g_BadValue : mg "BadValue" = some (.ref a.C_BadValue)
  ty_BadValue : PySem.W.typeIn K (.ref a.C_BadValue) = some (.type "type")
  ox_BadValue : OexG K a.C_BadValue
  xt_BadValue : PySem.W.typeIn K (.ref a.f_BadValue_init) = some (.type "function")
  xf_BadValue : XfC K a.C_BadValue
  xc_BadValue : ExcC K a.C_BadValue
  me_BadValue : (PySem.W.clsIn K a.C_BadValue).map (·.mro) = some (.ref a.C_BadValue :: [.ref a.C_HeirsbackError, .type "ValueError", .type "Exception", .type "BaseException", .type "object"])
  no_BadValue_field : PySem.W.findIn K (.ref a.C_BadValue) "field" = some none
  g_BadExpression : mg "BadExpression" = some (.ref a.C_BadExpression)
  ty_BadExpression : PySem.W.typeIn K (.ref a.C_BadExpression) = some (.type "type")
  ox_BadExpression : OexG K a.C_BadExpression
  xt_BadExpression : PySem.W.typeIn K (.ref a.f_BadExpression_init) = some (.type "function")
  xf_BadExpression : XfC K a.C_BadExpression
  xc_BadExpression : ExcC K a.C_BadExpression
  me_BadExpression : (PySem.W.clsIn K a.C_BadExpression).map (·.mro) = some (.ref a.C_BadExpression :: [.ref a.C_HeirsbackError, .type "ValueError", .type "Exception", .type "BaseException", .type "object"])
  no_BadExpression_at : PySem.W.findIn K (.ref a.C_BadExpression) "at" = some none
  g_BadFamily : mg "BadFamily" = some (.ref a.C_BadFamily)
  ty_BadFamily : PySem.W.typeIn K (.ref a.C_BadFamily) = some (.type "type")
  ox_BadFamily : OexG K a.C_BadFamily
  xt_BadFamily : PySem.W.typeIn K (.ref a.f_BadFamily_init) = some (.type "function")
  xf_BadFamily : XfC K a.C_BadFamily
  xc_BadFamily : ExcC K a.C_BadFamily
  me_BadFamily : (PySem.W.clsIn K a.C_BadFamily).map (·.mro) = some (.ref a.C_BadFamily :: [.ref a.C_HeirsbackError, .type "ValueError", .type "Exception", .type "BaseException", .type "object"])
  no_BadFamily_word : PySem.W.findIn K (.ref a.C_BadFamily) "word" = some none
  g_BadVirtue : mg "BadVirtue" = some (.ref a.C_BadVirtue)
  ty_BadVirtue : PySem.W.typeIn K (.ref a.C_BadVirtue) = some (.type "type")
  ox_BadVirtue : OexG K a.C_BadVirtue
  xt_BadVirtue : PySem.W.typeIn K (.ref a.f_BadVirtue_init) = some (.type "function")
  xf_BadVirtue : XfC K a.C_BadVirtue
  xc_BadVirtue : ExcC K a.C_BadVirtue
  me_BadVirtue : (PySem.W.clsIn K a.C_BadVirtue).map (·.mro) = some (.ref a.C_BadVirtue :: [.ref a.C_HeirsbackError, .type "ValueError", .type "Exception", .type "BaseException", .type "object"])
  no_BadVirtue_word : PySem.W.findIn K (.ref a.C_BadVirtue) "word" = some none
  g_BadMaker : mg "BadMaker" = some (.ref a.C_BadMaker)
  ty_BadMaker : PySem.W.typeIn K (.ref a.C_BadMaker) = some (.type "type")
  ox_BadMaker : OexG K a.C_BadMaker
  xt_BadMaker : PySem.W.typeIn K (.ref a.f_BadMaker_init) = some (.type "function")
  xf_BadMaker : XfC K a.C_BadMaker
  xc_BadMaker : ExcC K a.C_BadMaker
  me_BadMaker : (PySem.W.clsIn K a.C_BadMaker).map (·.mro) = some (.ref a.C_BadMaker :: [.ref a.C_HeirsbackError, .type "ValueError", .type "Exception", .type "BaseException", .type "object"])
  no_BadMaker_maker : PySem.W.findIn K (.ref a.C_BadMaker) "maker" = some none
  g_NoClass : mg "NoClass" = some (.ref a.C_NoClass)
  ty_NoClass : PySem.W.typeIn K (.ref a.C_NoClass) = some (.type "type")
  ox_NoClass : OexG K a.C_NoClass
  xt_NoClass : PySem.W.typeIn K (.ref a.f_NoClass_init) = some (.type "function")
  xf_NoClass : XfC K a.C_NoClass
  xc_NoClass : ExcC K a.C_NoClass
  me_NoClass : (PySem.W.clsIn K a.C_NoClass).map (·.mro) = some (.ref a.C_NoClass :: [.ref a.C_HeirsbackError, .type "ValueError", .type "Exception", .type "BaseException", .type "object"])
  no_NoClass_name : PySem.W.findIn K (.ref a.C_NoClass) "name" = some none
  g_NoSign : mg "NoSign" = some (.ref a.C_NoSign)
  ty_NoSign : PySem.W.typeIn K (.ref a.C_NoSign) = some (.type "type")
  ox_NoSign : OexG K a.C_NoSign
  xt_NoSign : PySem.W.typeIn K (.ref a.f_NoSign_init) = some (.type "function")
  xf_NoSign : XfC K a.C_NoSign
  xc_NoSign : ExcC K a.C_NoSign
  me_NoSign : (PySem.W.clsIn K a.C_NoSign).map (·.mro) = some (.ref a.C_NoSign :: [.ref a.C_HeirsbackError, .type "ValueError", .type "Exception", .type "BaseException", .type "object"])
  no_NoSign_sign : PySem.W.findIn K (.ref a.C_NoSign) "sign" = some none
  g_TooMany : mg "TooMany" = some (.ref a.C_TooMany)
  ty_TooMany : PySem.W.typeIn K (.ref a.C_TooMany) = some (.type "type")
  ox_TooMany : OexG K a.C_TooMany
  xt_TooMany : PySem.W.typeIn K (.ref a.f_TooMany_init) = some (.type "function")
  xf_TooMany : XfC K a.C_TooMany
  xc_TooMany : ExcC K a.C_TooMany
  me_TooMany : (PySem.W.clsIn K a.C_TooMany).map (·.mro) = some (.ref a.C_TooMany :: [.ref a.C_HeirsbackError, .type "ValueError", .type "Exception", .type "BaseException", .type "object"])
  no_TooMany_what : PySem.W.findIn K (.ref a.C_TooMany) "what" = some none
  g_Unlike : mg "Unlike" = some (.ref a.C_Unlike)
  ty_Unlike : PySem.W.typeIn K (.ref a.C_Unlike) = some (.type "type")
  ox_Unlike : OexG K a.C_Unlike
  xt_Unlike : PySem.W.typeIn K (.ref a.f_Unlike_init) = some (.type "function")
  xf_Unlike : XfC K a.C_Unlike
  xc_Unlike : ExcC K a.C_Unlike
  me_Unlike : (PySem.W.clsIn K a.C_Unlike).map (·.mro) = some (.ref a.C_Unlike :: [.ref a.C_HeirsbackError, .type "ValueError", .type "Exception", .type "BaseException", .type "object"])
  no_Unlike_at : PySem.W.findIn K (.ref a.C_Unlike) "at" = some none
  g_Surplus : mg "Surplus" = some (.ref a.C_Surplus)
  ty_Surplus : PySem.W.typeIn K (.ref a.C_Surplus) = some (.type "type")
  ox_Surplus : OexG K a.C_Surplus
  xt_Surplus : PySem.W.typeIn K (.ref a.f_Surplus_init) = some (.type "function")
  xf_Surplus : XfC K a.C_Surplus
  xc_Surplus : ExcC K a.C_Surplus
  me_Surplus : (PySem.W.clsIn K a.C_Surplus).map (·.mro) = some (.ref a.C_Surplus :: [.type "LookupError", .type "Exception", .type "BaseException", .type "object"])
  no_Surplus_name : PySem.W.findIn K (.ref a.C_Surplus) "name" = some none
  no_Surplus_many : PySem.W.findIn K (.ref a.C_Surplus) "many" = some none
  g_Lacking : mg "Lacking" = some (.ref a.C_Lacking)
  ty_Lacking : PySem.W.typeIn K (.ref a.C_Lacking) = some (.type "type")
  ox_Lacking : OexG K a.C_Lacking
  xt_Lacking : PySem.W.typeIn K (.ref a.f_Lacking_init) = some (.type "function")
  xf_Lacking : XfC K a.C_Lacking
  xc_Lacking : ExcC K a.C_Lacking
  me_Lacking : (PySem.W.clsIn K a.C_Lacking).map (·.mro) = some (.ref a.C_Lacking :: [.type "LookupError", .type "Exception", .type "BaseException", .type "object"])
  no_Lacking_name : PySem.W.findIn K (.ref a.C_Lacking) "name" = some none
  no_Lacking_field : PySem.W.findIn K (.ref a.C_Lacking) "field" = some none
  g_Unknown : mg "Unknown" = some (.ref a.C_Unknown)
  ty_Unknown : PySem.W.typeIn K (.ref a.C_Unknown) = some (.type "type")
  ox_Unknown : OexG K a.C_Unknown
  xt_Unknown : PySem.W.typeIn K (.ref a.f_Unknown_init) = some (.type "function")
  xf_Unknown : XfC K a.C_Unknown
  xc_Unknown : ExcC K a.C_Unknown
  me_Unknown : (PySem.W.clsIn K a.C_Unknown).map (·.mro) = some (.ref a.C_Unknown :: [.type "LookupError", .type "Exception", .type "BaseException", .type "object"])
  no_Unknown_name : PySem.W.findIn K (.ref a.C_Unknown) "name" = some none
  no_Unknown_field : PySem.W.findIn K (.ref a.C_Unknown) "field" = some none
  g_Failed : mg "Failed" = some (.ref a.C_Failed)
  ty_Failed : PySem.W.typeIn K (.ref a.C_Failed) = some (.type "type")
  ox_Failed : OexG K a.C_Failed
  xt_Failed : PySem.W.typeIn K (.ref a.f_Failed_init) = some (.type "function")
  xf_Failed : XfC K a.C_Failed
  xc_Failed : ExcC K a.C_Failed
  me_Failed : (PySem.W.clsIn K a.C_Failed).map (·.mro) = some (.ref a.C_Failed :: [.type "LookupError", .type "Exception", .type "BaseException", .type "object"])
  no_Failed_at : PySem.W.findIn K (.ref a.C_Failed) "at" = some none
  no_Failed_reason : PySem.W.findIn K (.ref a.C_Failed) "reason" = some none
  xhd_hb : PySem.W.hasDictIn K a.C_HeirsbackError = true
  rv_nd : ([a.C_BadLibrary, a.C_BadWorld, a.C_BadValue, a.C_BadExpression, a.C_BadFamily, a.C_BadVirtue, a.C_BadMaker, a.C_NoClass, a.C_NoSign, a.C_TooMany, a.C_Unlike, a.C_Surplus, a.C_Lacking, a.C_Unknown, a.C_Failed, a.C_HeirsbackError] : List Addr).Nodup
  n_IndexError : mg "IndexError" = none
  n_KeyError : mg "KeyError" = none
  n_LookupError : mg "LookupError" = none
  n_ValueError : mg "ValueError" = none
  n_abs : mg "abs" = none
  n_bool : mg "bool" = none
  n_enumerate : mg "enumerate" = none
  n_int : mg "int" = none
  n_isinstance : mg "isinstance" = none
  n_len : mg "len" = none
  n_list : mg "list" = none
  n_max : mg "max" = none
  n_min : mg "min" = none
  n_range : mg "range" = none
  n_str : mg "str" = none
local macro_rules | `(tactic| array_mem_dec) => `(tactic| with_reducible first
  | assumption | exact upd_same
  | (apply upd_new; assumption; array_mem_dec)
  | (apply upd_old; tlg_ne; array_mem_dec)
  | (apply same_at; assumption; array_mem_dec))
local macro_rules | `(tactic| tlg_ne) => `(tactic| with_reducible first
  | assumption | (apply Ne.symm; assumption)
  | (apply ne_new; assumption; array_mem_dec) | (apply ne_new'; assumption; array_mem_dec)
  | (apply ne_of; assumption; assumption; (with_unfolding_all (intro z; cases z; done))))
local macro_rules | `(tactic| decreasing_trivial_pre_omega) => `(tactic| with_reducible first
  | assumption | (apply sqL_of; array_mem_dec) | (apply sqT_of; array_mem_dec)
  | (apply Same.seq; assumption; decreasing_trivial_pre_omega) | (apply sqT_same; assumption; decreasing_trivial_pre_omega)
  | (apply sqL_new; assumption; decreasing_trivial_pre_omega) | (apply sqL_upd; tlg_ne; decreasing_trivial_pre_omega))
local macro_rules | `(tactic| kpt_turns) => `(tactic| with_reducible first
  | assumption | exact Same.refl _ | (apply same_ext; kpt_turns; assumption) | (apply same_mut; kpt_turns; keq_hits) | (apply same_step; assumption; kpt_turns))
local macro_rules | `(tactic| keq_hits) => `(tactic| with_reducible first | assumption | (apply same_none; assumption; keq_hits))
local macro_rules | `(tactic| sizeOf_list_dec) => `(tactic| first | (with_reducible assumption) | (with_reducible_and_instances omega) | (with_unfolding_all decide))
local macro_rules | `(tactic| array_get_dec) => `(tactic| first | (with_reducible assumption) | (apply sz_of; (with_unfolding_all simp); done) | (apply sz_of; omega) | (apply sz_lt; (with_unfolding_all simp); done) | (apply sz_lt; omega))
local macro_rules | `(tactic| keq_rows) => `(tactic| with_reducible first
  | apply rd_asgN | apply rd_seq | apply rd_parA | apply rd_par3A | apply rd_par2 | apply rd_par3 | apply rd_m1 | apply rd_isStr | apply rd_cval | apply rd_asg | apply rd_gname | apply rd_op | (show tVar _ _ _ _; refine rd_var (by with_unfolding_all rfl) ?_) | apply rd_c | apply rd_I0
  | apply rd_cons | apply rd_nil | apply rd_cb | apply rd_test | apply rd_bl | apply rd_fld | apply rd_drop | apply rd_ret | apply rd_retN | apply rd_next
  | apply rd_ifS | apply rd_un | apply rd_B | apply rd_and | apply rd_or | apply rd_not | apply rd_andV | apply rd_orV | apply rd_notV | apply rd_if
  | apply rd_int | apply rd_abs | apply rd_max | apply rd_min | apply rd_strS | apply rd_U
  | apply rd_eqTx | apply rd_neTx | apply rd_inTx | apply rd_notInTx | apply rd_fmt | (show FmtK (.str (tx _)) _ _; refine rd_fmtT (by omega) ?_) | apply rd_jsC | apply rd_jsN | (show JsK _ (tx _) _ (.str (tx _)) _ _; refine rd_JsK (by first | omega | (simp; done) | (simp; omega)) ?_) | (show rAddStr (.str (tx _)) (.str (tx _)) _ _; refine rd_addT (by first | omega | (simp; done) | (simp; omega)) ?_) | (show rLenStr [.str (tx _)] _ _; refine rd_lenTx (by omega) ?_)
  | (show rEq _ _ _ _; refine rd_eq (by with_unfolding_all rfl) ?_) | (show rNe _ _ _ _; refine rd_ne (by with_unfolding_all rfl) ?_) | apply rd_isNone | apply rd_notNone
  | (show rIxL _ _ _ _ _; refine rd_ixL (by decreasing_trivial_pre_omega) (by with_unfolding_all rfl) ?_) | (show rIxT _ _ _ _ _; refine rd_ixT (by decreasing_trivial_pre_omega) (by with_unfolding_all rfl) ?_)
  | (show rLenSeq _ _ _ _; refine rd_lenL (by decreasing_trivial_pre_omega) ?_) | (show rLenSeq _ _ _ _; refine rd_lenT (by decreasing_trivial_pre_omega) ?_)
  | (show rI _ _ _ _ _ _; refine rd_mod (by sizeOf_list_dec) ?_) | (show rI _ _ _ _ _ _; refine rd_div (by sizeOf_list_dec) (by sizeOf_list_dec) ?_) | (show rI _ _ _ _ _ _; refine rd_mulR (by sizeOf_list_dec) (by sizeOf_list_dec) ?_) | (show rI _ _ _ _ _ _; refine rd_mulL (by sizeOf_list_dec) (by sizeOf_list_dec) ?_) | (show rI _ _ _ _ _ _; refine rd_pow (by sizeOf_list_dec) ?_)
  | (show rSetL _ _ _ _ _; refine rd_setL (by array_mem_dec) (by with_unfolding_all rfl) ?_)
  | apply rd_inSign | apply rd_notInSign | apply rd_tupK | apply rd_lstK | apply rd_sl | apply rd_noPart | apply rd_part | apply rd_isInt
  | apply rd_gsub | apply rd_gcons | apply rd_gnil | apply rd_call | apply rd_meth | apply rd_make | apply rd_smeth | apply rd_isC | apply rd_smethK | apply rd_cmeth | apply rd_cmethK
  | apply rd_bm | apply rd_bm0 | (show BmK _ _ _ _ _ _ _ _; refine rd_bmL (by array_mem_dec) ?_) | (show Bm0K _ _ _ _ _ _; refine rd_bm0L (by array_mem_dec) ?_) | apply rd_sfld | apply rd_aug | apply rd_rAdd | apply rd_brk | apply rd_cont
  | apply rd_for | apply rd_iList | (show IList _ _ _ _; refine rd_IList (by decreasing_trivial_pre_omega) ?_) | apply rd_iTup | (show ITup _ _ _ _; refine rd_ITup (by decreasing_trivial_pre_omega) ?_) | apply rd_iEnum | (show IEnum _ _ _ _; refine rd_IEnum (by decreasing_trivial_pre_omega) ?_) | apply rd_iRng1 | (show IRng1 _ _ _; refine rd_IRng1 (by sizeOf_list_dec) (by sizeOf_list_dec) ?_)
  | (show rLenStr _ _ _; refine rd_lenS (by array_get_dec) ?_) | (show rAddStr _ _ _ _; refine rd_addS (by array_get_dec) ?_) | (show rSlS _ _ _ _ _; refine rd_slS (by array_get_dec) ?_) | apply rd_lc | apply rd_yes | (show gTup _ _ _ _ _ _ _; refine rd_gtup (by decreasing_trivial_pre_omega) (by with_unfolding_all rfl) ?_) | (show tMakeL _ _ _ _ _ _ _ _; refine rd_makeL (by with_unfolding_all rfl) ?_))
local macro_rules | `(tactic| kas_types) => `(tactic| with_reducible first | apply rd_isi_int_int | apply rd_isi_int_bool | apply rd_isi_int_str | apply rd_isi_int_list | apply rd_isi_int_tuple | apply rd_isi_bool_int | apply rd_isi_bool_bool | apply rd_isi_bool_str | apply rd_isi_bool_list | apply rd_isi_bool_tuple | apply rd_isi_str_int | apply rd_isi_str_bool | apply rd_isi_str_str | apply rd_isi_str_list | apply rd_isi_str_tuple | (show rIsi _ _ _ _; refine rd_isi_list_int (by array_mem_dec) ?_) | (show rIsi _ _ _ _; refine rd_isi_list_bool (by array_mem_dec) ?_) | (show rIsi _ _ _ _; refine rd_isi_list_str (by array_mem_dec) ?_) | (show rIsi _ _ _ _; refine rd_isi_list_list (by array_mem_dec) ?_) | (show rIsi _ _ _ _; refine rd_isi_list_tuple (by array_mem_dec) ?_) | (show rIsi _ _ _ _; refine rd_isi_tuple_int (by array_mem_dec) ?_) | (show rIsi _ _ _ _; refine rd_isi_tuple_bool (by array_mem_dec) ?_) | (show rIsi _ _ _ _; refine rd_isi_tuple_str (by array_mem_dec) ?_) | (show rIsi _ _ _ _; refine rd_isi_tuple_list (by array_mem_dec) ?_) | (show rIsi _ _ _ _; refine rd_isi_tuple_tuple (by array_mem_dec) ?_) | apply rd_isi_NoneType_int | apply rd_isi_NoneType_bool | apply rd_isi_NoneType_str | apply rd_isi_NoneType_list | apply rd_isi_NoneType_tuple)
local macro_rules | `(tactic| lcg_src) => `(tactic| repeat keq_rows)

local macro_rules | `(tactic| lcg_sub) => `(tactic| with_reducible first | apply rd_chain | apply rd_xmk | apply rd_xst | apply rd_xg)
local macro_rules | `(tactic| lcg_off) => `(tactic| repeat (first | keq_rows | lcg_sub))
section
variable {P : Program} {w : World} {K : PySem.W.Frag} {mg : Str → Option Value} {base : Heap} {a : Ad}
/-- the bag: n draws at most -/
structure Bg (F H : Hp) (b : Addr) (n : Nat) : Prop where
  fh : Same F H
  fb : F b = none
  hb : ∃ d m c : Int, H b = some (.lst [.int d, .int m, .int c]) ∧ 0 ≤ m ∧ m < 2 ^ 62 ∧ 0 ≤ c ∧ c ≤ n
theorem Bg.nn {F H : Hp} {b : Addr} {n : Nat} (h : Bg F H b n) : H b ≠ none := by
  obtain ⟨d, m, c, e, _⟩ := h.hb
  exact some_ne e
theorem Bg.go0 {F H F' H' : Hp} {b : Addr} {n : Nat} (h : Bg F H b n) (g : Grow [] F H F' H') : Bg F' H' b n := by
  obtain ⟨d, m, c, e, z⟩ := h.hb
  exact ⟨g.fh, (g.own b h.fb h.nn).1, d, m, c, g.same _ _ e, z⟩
theorem Bg.le {F H : Hp} {b : Addr} {n m : Nat} (h : Bg F H b n) (l : n ≤ m) : Bg F H b m := by
  obtain ⟨d, q, c, e, z1, z2, z3, z4⟩ := h.hb
  exact ⟨h.fh, h.fb, d, q, c, e, z1, z2, z3, by omega⟩
def sp_law_take : Sp := fun vs H Q _ => ∃ (b : Addr) (d m c n : Int), vs = [.ref b, .int n] ∧ H b = some (.lst [.int d, .int m, .int c]) ∧ 0 ≤ m ∧ m < 2 ^ 62 ∧ 0 ≤ c ∧ c ≤ 10000 ∧ 0 < n ∧ n < 2 ^ 100 ∧
  ∀ r d' c' : Int, 0 ≤ r → r < n → 0 ≤ c' → c' ≤ c + 1 → Q (.int r) (upd H b (.lst [.int d', .int m, .int c']))
theorem ok_law_take (T : Txt K mg a) : FnOk P w K mg base CX0 1 a.f_law_take a.fd_law_take ["_law_bag_here", "_law_many"]  sp_law_take := by
  refine T.F_law_take.ok sc_law_take (fun vs H Q E h => ?_) (fun cdv A outer s H vs Q E hr h => ?_)
  · obtain ⟨_, _, _, _, _, rfl, _⟩ := h
    rfl
  · obtain ⟨b, d, m, c, n, rfl, hb, m0, m1, c0, c1, h0, h1, k⟩ := h
    refine ⟨_, ((pss_cons (ps_if (pt_cmpR op_gt (pe_ix ix_list (pv 0) pe_int (fun _ _ => rfl)) pe_int (nomark _))
 (pss_cons (ps_set (i := 2) sc_law_take.nd rfl (Or.inl rfl) (pe_op op_mod (pe_callTy call_intI (by rfl) T.n_int (by decide +kernel) (pa_cons (pe_ix ix_list (pv 0) pe_int (fun _ _ => rfl)) pa_nil)) (pv 1)))
 (pss_cons (ps_asg (pe_op op_fdivW (pe_ix ix_list (pv 0) pe_int (fun _ _ => rfl)) (pv 1)) (pg_sub (pv 0) pe_int set_list))
 (pss_one (ps_ret (pv 2)))))
 pss_nil)
 (pss_cons (ps_asg (pe_op op_add (pe_ix ix_list (pv 0) pe_int (fun _ _ => rfl)) pe_int) (pg_sub (pv 0) pe_int set_list))
 (pss_cons (ps_set (i := 3) sc_law_take.nd rfl (Or.inl rfl) (pe_op op_mod (pe_callTy call_intI (by rfl) T.n_int (by decide +kernel) (pa_cons (pe_op op_pow (pe_op op_add (pe_ix ix_list (pv 0) pe_int (fun _ _ => rfl)) (pe_op op_mul pe_int (pe_ix ix_list (pv 0) pe_int (fun _ _ => rfl)))) pe_int) pa_nil)) pe_int))
 (pss_cons (ps_set (i := 3) sc_law_take.nd rfl (Or.inl rfl) (pe_op op_mod (pe_callTy call_intI (by rfl) T.n_int (by decide +kernel) (pa_cons (pe_op op_pow (pe_op op_add (pv 3) (pe_op op_mul pe_int (pe_ix ix_list (pv 0) pe_int (fun _ _ => rfl)))) pe_int) pa_nil)) pe_int))
 (pss_one (ps_ret (pe_op op_mod (pe_callTy call_intI (by rfl) T.n_int (by decide +kernel) (pa_cons (pe_op op_fdivW (pv 3) pe_int) pa_nil)) (pv 1))))))))), ?_⟩
    try simp only [cxK]
    lcg_off
    refine ifD (fun cq => ?_) (fun cq => ?_)
    · lcg_off
      exact k _ _ _ (Int.emod_nonneg _ (by omega)) (Int.emod_lt_of_pos _ h0) (by omega) (by omega)
    · lcg_off
      refine rd_pow ⟨by decide, by decide, by omega⟩ ?_
      lcg_off
      have p1 : ∀ z : Int, z % 2305843009213693921 < 2305843009213693921 := fun z => Int.emod_lt_of_pos _ (by decide)
      have p0 : ∀ z : Int, 0 ≤ z % 2305843009213693921 := fun z => Int.emod_nonneg _ (by decide)
      refine rd_pow ⟨by decide, by decide, ?_⟩ ?_
      · have := p1 ((m + 15485863 * (c + 1)) ^ (3 : Int).toNat)
        have := p0 ((m + 15485863 * (c + 1)) ^ (3 : Int).toNat)
        omega
      lcg_off
      have e : upd (upd H b (.lst [.int d, .int m, .int (c + 1)])) b = upd H b := by
        funext o q
        by_cases hq : q = b
        · rw [hq, upd_same, upd_same]
        · rw [upd_ne hq, upd_ne hq, upd_ne hq]
      exact k _ _ _ (Int.emod_nonneg _ (by omega)) (Int.emod_lt_of_pos _ h0) (by omega) (by omega)
theorem take_ok {F H : Hp} {b : Addr} {n : Int} {i : Nat} {Q : VK} {E : XK} (hb : Bg F H b i) (hi : i ≤ 9000) (h0 : 0 < n) (h1 : n < 2 ^ 100) (k : ∀ (r : Nat) H', (r : Int) < n → Grow [b] F H F H' → Bg F H' b (i + 1) → Q (.int (r : Nat)) H') : sp_law_take [.ref b, .int n] H Q E := by
  obtain ⟨d, m, c, e, m0, m1, c0, c1⟩ := hb.hb
  refine ⟨b, d, m, c, n, rfl, e, m0, m1, c0, by omega, h0, h1, fun r d' c' r0 r1 z0 z1 => ?_⟩
  obtain ⟨j, rfl⟩ := Int.eq_ofNat_of_zero_le r0
  exact k j _ r1 ((Grow.refl hb.fh).mut hb.fb (.inl (by simp))) ⟨same_mut hb.fh hb.fb, hb.fb, d', m, c', upd_same, m0, m1, z0, by omega⟩
theorem atI_ints {ns : List Int} {i : Int} (h0 : 0 ≤ i) (h1 : i < (ns.length : Int)) : ∃ z, atI (ns.map V.int) i = some (.int z) := by
  have e : i.toNat < ns.length := by omega
  refine ⟨ns[i.toNat], ?_⟩
  unfold atI ixN
  rw [List.length_map, if_pos h0, if_pos h1]
  simp [e]
def sp_law_bag (K : PySem.W.Frag) : Sp := fun vs H Q _ => ∃ (sc : Addr) (ns : List Int) (at_ : Int), vs = [.ref sc, .int at_] ∧ SqL K H sc (ns.map V.int) ∧ 0 ≤ at_ ∧ at_ < 100 ∧
  ∀ (p : Addr) (H' : Hp), H p = none → Same H H' → Bg H H' p 0 → Q (.ref p) H'
theorem ok_law_bag (T : Txt K mg a) : FnOk P w K mg base CX0 1 a.f_law_bag a.fd_law_bag ["_law_script", "_law_at"]  (sp_law_bag K) := by
  refine T.F_law_bag.ok sc_law_bag (fun vs H Q E h => ?_) (fun cdv A outer s H vs Q E hr h => ?_)
  · obtain ⟨_, _, _, rfl, _⟩ := h
    rfl
  · obtain ⟨sc, ns, at_, rfl, hS, h0, h1, k⟩ := h
    refine ⟨_, ((Evl.pss_cut (ps_set (i := 2) sc_law_bag.nd rfl (Or.inl rfl) (pe_ifExp (pt_cmpR op_lt (pv 1) (pe_callB call_lenSeq (by rfl) T.n_len (by decide +kernel) (pa_cons (pv 0) pa_nil)) (nomark _)) (pe_ix ix_list (pv 0) (pv 1) (fun _ _ => rfl)) pe_int))
 (Evl.pss_cut (ps_set (i := 3) sc_law_bag.nd rfl (Or.inl rfl) (pe_ifExp (pt_cmpR op_ge (pe_callB call_absI (by rfl) T.n_abs (by decide +kernel) (pa_cons (pv 2) pa_nil)) (pe_op op_pow pe_int pe_int) (nomark _)) (pe_callB call_absI (by rfl) T.n_abs (by decide +kernel) (pa_cons (pv 2) pa_nil)) pe_int))
 (pss_one (ps_ret (pe_lst (pa_cons (pv 3) (pa_cons (pe_op op_add (pe_op op_add (pe_op op_mod (pe_callTy call_intI (by rfl) T.n_int (by decide +kernel) (pa_cons (pv 2) pa_nil)) pe_int) (pe_op op_mul pe_int (pv 1))) pe_int) (pa_cons pe_int pa_nil))))))))), ?_⟩
    try simp only [cxK]
    refine rd_cut (fun σ' H' => H' = H ∧ ∃ z : Int, σ' = [some (.ref sc), some (.int at_), some (.int z), none]) ?_ ?_
    · lcg_off
      refine ifD (fun c => ?_) (fun c => ?_)
      · rw [List.length_map] at c
        obtain ⟨z, hz⟩ := atI_ints h0 c
        lcg_off
        refine rd_ixL hS hz ?_
        lcg_off
        exact ⟨rfl, z, rfl⟩
      · lcg_off
        exact ⟨rfl, 0, rfl⟩
    · rintro σ' H' ⟨rfl, z, rfl⟩
      refine rd_cut (fun σ' H2 => H2 = H' ∧ ∃ d : Int, σ' = [some (.ref sc), some (.int at_), some (.int z), some (.int d)]) ?_ ?_
      · lcg_off
        refine rd_pow ⟨by decide, by decide, by decide⟩ ?_
        lcg_off
        refine ifB (fun c => ?_) (fun c => ?_)
        · lcg_off
          exact ⟨rfl, _, rfl⟩
        · lcg_off
          exact ⟨rfl, _, rfl⟩
      · rintro σ2 H2 ⟨rfl, d, rfl⟩
        lcg_off
        refine ⟨by rw [sizeLine_eq]; simp, fun p hp => ?_⟩
        have e1 := Int.emod_lt_of_pos z (show (0 : Int) < 2305843009213693951 by decide)
        have e0 := Int.emod_nonneg z (show (2305843009213693951 : Int) ≠ 0 by decide)
        exact k p _ hp (same_new hp) ⟨same_new hp, hp, _, _, _, upd_same, by omega, by omega, by decide, by decide⟩
/-- one of a list's items -/
def sp_law_of (K : PySem.W.Frag) : Sp := fun vs H Q _ => ∃ (F : Hp) (b l : Addr) (n : Nat) (xs : List V), vs = [.ref b, .ref l] ∧ Bg F H b n ∧ n ≤ 9000 ∧ SqL K F l xs ∧ 0 < xs.length ∧ xs.length < 1000 ∧
  ∀ (i : Nat) (x : V) H', xs[i]? = some x → Grow [b] F H F H' → Bg F H' b (n + 1) → Q x H'
theorem ok_law_of (T : Txt K mg a) : FnOk P w K mg base CX0 2 a.f_law_of a.fd_law_of ["_law_bag_here", "_law_some"]  (sp_law_of K) := by
  refine T.F_law_of.ok sc_law_of (fun vs H Q E h => ?_) (fun cdv A outer s H vs Q E hr h => ?_)
  · obtain ⟨_, _, _, _, _, rfl, _⟩ := h
    rfl
  · obtain ⟨F, b, l, n, xs, rfl, hb, hn, hl, h0, h1, k⟩ := h
    have hlH : SqL K H l xs := hb.fh.seq hl
    refine ⟨_, ((pss_one (ps_ret (pe_ix ix_list (pv 1) (pe_call (ok_law_take T) hr rfl T.g_law_take T.F_law_take.kp T.b_law_take .nil pass0 (pa_cons (pv 0) (pa_cons (pe_callB call_lenSeq (by rfl) T.n_len (by decide +kernel) (pa_cons (pv 1) pa_nil)) pa_nil))) (fun _ _ => rfl))))), ?_⟩
    try simp only [cxK]
    lcg_off
    refine take_ok hb hn (by omega) (by omega) fun r H1 hr1 g1 hb1 => ?_
    have hr2 : r < xs.length := by omega
    have e : xs[r]? = some xs[r] := List.getElem?_eq_getElem hr2
    refine rd_ixL (hb1.fh.seq hl) (atI_at e) ?_
    exact k r _ H1 e g1 hb1
theorem int_okT (i : Int) : okT (Str.ofString (toString i)).cps.toList := fun c hc => by
  by_cases h : c < 128
  · exact h
  · exact absurd hc (PyProof.Rows.int_text_free' c ⟨by omega, by omega⟩ i)
theorem x_tx : Str.ofString "x" = tx [120] := by decide +kernel
theorem a_tx : Str.ofString "a" = tx [97] := by decide +kernel
theorem A_tx : Str.ofString "A" = tx [65] := by decide +kernel
theorem no_tx : Str.ofString "" = tx [] := by decide +kernel
/-- a value of any kind: data -/
def sp_law_thing (K : PySem.W.Frag) : Sp := fun vs H Q _ => ∃ (F : Hp) (b : Addr) (n : Nat), vs = [.ref b] ∧ Bg F H b n ∧ n ≤ 8000 ∧
  ∀ F' H' v d, Grow [b] F H F' H' → Bg F' H' b (n + 2) → Dp K F' v d → SeqAt.shaped d = true → Q v H'
theorem ok_law_thing (T : Txt K mg a) : FnOk P w K mg base CX0 3 a.f_law_thing a.fd_law_thing ["_law_bag_here"]  (sp_law_thing K) := by
  refine T.F_law_thing.ok sc_law_thing (fun vs H Q E h => ?_) (fun cdv A outer s H vs Q E hr h => ?_)
  · obtain ⟨_, _, _, rfl, _⟩ := h
    rfl
  · obtain ⟨F, b, n, rfl, hb, hn, k⟩ := h
    refine ⟨_, ((pss_cons (ps_set (i := 1) sc_law_thing.nd rfl (Or.inl rfl) (pe_call (ok_law_take T) (hr.mono (by decide)) rfl T.g_law_take T.F_law_take.kp T.b_law_take .nil pass0 (pa_cons (pv 0) (pa_cons (pe_op op_pow pe_int pe_int) pa_nil))))
 (pss_one (ps_ret (pe_call (ok_law_of T) hr rfl T.g_law_of T.F_law_of.kp T.b_law_of .nil pass0 (pa_cons (pv 0) (pa_cons (pe_lst (pa_cons (pv 1) (pa_cons (pe_un un_neg (pv 1)) (pa_cons (pe_op op_addStr pe_str (pe_callTy call_str_int (by rfl) T.n_str (by decide +kernel) (pa_cons (pv 1) pa_nil))) (pa_cons pe_str (pa_cons pe_non (pa_cons pe_bl (pa_cons (pe_lst (pa_cons (pv 1) pa_nil)) (pa_cons (pe_tup (pa_cons (pv 1) (pa_cons pe_str pa_nil))) (pa_cons pe_int pa_nil)))))))))) pa_nil))))))), ?_⟩
    try simp only [cxK, x_tx, a_tx, no_tx]
    lcg_off
    refine rd_pow ⟨by decide, by decide, by decide⟩ ?_
    lcg_off
    refine take_ok hb (by omega) (by decide) (by decide) fun r H1 hr1 g1 hb1 => ?_
    have hr1' : r < 10 ^ 30 := by
      have e : ((10 : Int) ^ (30 : Int).toNat) = ((10 ^ 30 : Nat) : Int) := by decide
      rw [e] at hr1
      omega
    lcg_off
    have hlog : (r : Int).natAbs.log2 < 1920 := by
      rw [Int.natAbs_natCast]
      have : r < 2 ^ 1920 := Nat.lt_of_lt_of_le hr1' (by first | rfl | decide +kernel)
      by_cases h : r = 0
      · subst h; decide
      · exact (Nat.log2_lt h).mpr this
    refine ⟨_, rfl, hlog, ?_⟩
    have hlen := PyProof.Rows.int_text_len_1921 hlog
    have hok := int_okT (r : Int)
    generalize ez : Str.ofString (toString (r : Int)) = z at hlen hok
    rw [tx_of z] at hlen ⊢
    rw [tx_len] at hlen
    generalize z.cps.toList = zl at hlen hok
    lcg_off
    refine newL hb1.fh fun F2 H2 l2 g2 n2 e2 => ?_
    lcg_off
    refine newT g2.fh fun F3 H3 l3 g3 n3 e3 => ?_
    lcg_off
    refine newL g3.fh fun F4 H4 l4 g4 n4 e4 => ?_
    have g14 := (g2.trans g3).trans g4
    lcg_off
    refine ⟨F4, b, l4, n + 1, _, rfl, hb1.go0 g14, by omega, sqL_of e4, by simp, by simp, fun i x H5 hx g5 hb5 => ?_⟩
    have gg := (g1.step (S' := []) g14).trans g5
    have hx := List.mem_of_getElem? hx
    simp only [List.mem_cons, List.not_mem_nil, or_false] at hx
    rcases hx with rfl | rfl | rfl | rfl | rfl | rfl | rfl | rfl | rfl
    · exact k F4 H5 _ (.int _) gg hb5 (.int _) (by first | rfl | decide +kernel)
    · exact k F4 H5 _ (.int _) gg hb5 (.int _) (by first | rfl | decide +kernel)
    · refine k F4 H5 _ (.str _) gg hb5 (.str _) ?_
      unfold SeqAt.shaped
      rw [Bool.and_eq_true]
      refine ⟨?_, by rfl⟩
      simp only [PyData.canLay0]
      refine okT_str fun c hc => ?_
      rcases List.mem_append.mp hc with hc | hc
      · simp at hc; omega
      · exact hok c hc
    · exact k F4 H5 _ (.str _) gg hb5 (.str _) (by first | rfl | decide +kernel)
    · exact k F4 H5 _ .none gg hb5 .non (by first | rfl | decide +kernel)
    · exact k F4 H5 _ (.bool _) gg hb5 (.bl _) (by first | rfl | decide +kernel)
    · exact k F4 H5 _ (.list [.int _]) gg hb5 (.lst (sqL_of (g4.ff _ _ (g3.ff _ _ e2))) (.one (.int _))) (by first | rfl | decide +kernel)
    · exact k F4 H5 _ (.tuple [.int _, .str _]) gg hb5 (.tup (sqT_of (g4.ff _ _ e3)) (.cons (.int _) (.one (.str _)))) (by unfold SeqAt.shaped; rw [Bool.and_eq_true]; refine ⟨?_, by rfl⟩; simp only [PyData.canLay0, PyData.canLayAll0, Bool.true_and, Bool.and_true]; decide +kernel)
    · exact k F4 H5 _ (.int _) gg hb5 (.int _) (by first | rfl | decide +kernel)
/-- a word of one to eight letters -/
def sp_law_letters : Sp := fun vs H Q _ => ∃ (F : Hp) (b : Addr) (n : Nat), vs = [.ref b] ∧ Bg F H b n ∧ n ≤ 8000 ∧
  ∀ F' H' l, Grow [b] F H F' H' → Bg F' H' b (n + 9) → l.length ≤ 8 → okT l → Q (.str (tx l)) H'
theorem of_letter {F H : Hp} {b l : Addr} {n : Nat} {Q : VK} {E : XK} (hb : Bg F H b n) (hn : n ≤ 9000) (hl : F l = some (.lst ((smalls.map fun c => [c]).map wd))) (k : ∀ c H', c ∈ smalls → Grow [b] F H F H' → Bg F H' b (n + 1) → Q (.str (tx [c])) H') : sp_law_of K [.ref b, .ref l] H Q E := by
  refine ⟨F, b, l, n, _, rfl, hb, hn, sqL_of hl, by decide, by decide, fun i x H' hx g h => ?_⟩
  rw [List.getElem?_map, List.getElem?_map] at hx
  cases q : smalls[i]? with
  | none => rw [q] at hx; cases hx
  | some c =>
    rw [q] at hx
    cases hx
    exact k c H' (List.mem_of_getElem? q) g h
theorem ok_law_letters (T : Txt K mg a) : FnOk P w K mg base CX0 3 a.f_law_letters a.fd_law_letters ["_law_bag_here"]  sp_law_letters := by
  refine T.F_law_letters.ok sc_law_letters (fun vs H Q E h => ?_) (fun cdv A outer s H vs Q E hr h => ?_)
  · obtain ⟨_, _, _, rfl, _⟩ := h
    rfl
  · obtain ⟨F, b, n, rfl, hb, hn, k⟩ := h
    refine ⟨_, ((pss_cons (ps_set (i := 1) sc_law_letters.nd rfl (Or.inl rfl) pe_str)
 (pss_cons (ps_for PassesOwn.never rfl (pi_range1 rfl T.n_range (pa_cons (pe_op op_add pe_int (pe_call (ok_law_take T) (hr.mono (by decide)) rfl T.g_law_take T.F_law_take.kp T.b_law_take .nil pass0 (pa_cons (pv 0) (pa_cons pe_int pa_nil)))) pa_nil)) (pg_name (i := 2) sc_law_letters.nd rfl (Or.inl rfl))
 (pss_one (ps_set (i := 1) sc_law_letters.nd rfl (Or.inl rfl) (pe_op op_addStr (pv 1) (pe_call (ok_law_of T) hr rfl T.g_law_of T.F_law_of.kp T.b_law_of .nil pass0 (pa_cons (pv 0) (pa_cons (pe_callTy (call_listS rfl) (by rfl) T.n_list (by decide +kernel) (pa_cons pe_str pa_nil)) pa_nil)))))))
 (pss_one (ps_ret (pv 1)))))), ?_⟩
    try simp only [cxK, no_tx, smalls_eq]
    lcg_off
    refine take_ok hb (by omega) (by decide) (by decide) fun r H1 hr1 g1 hb1 => ?_
    lcg_off
    refine fk_range (n := (1 + (r : Int)).toNat) (fun i σ H2 => ∃ (F2 : Hp) (l : List Nat), Grow [b] F H F2 H2 ∧ Bg F2 H2 b (n + 1 + i) ∧ l.length = i ∧ okT l ∧ ∃ u : Option V, σ = [some (.ref b), some (.str (tx l)), u])
      ⟨F, [], g1, hb1, rfl, (fun c hc => by cases hc), _, rfl⟩ ?_ ?_
    · rintro i σ H2 hi ⟨F2, l, g2, hb2, hl, hok, u, rfl⟩
      have hi8 : i < 8 := by omega
      lcg_off
      refine rd_listS (by decide) fun p np => ?_
      have g3 : Grow [] F2 H2 (upd F2 p (.lst ((smalls.map fun c => [c]).map wd))) (upd H2 p (.lst ((smalls.map fun c => [c]).map wd))) := (Grow.refl hb2.fh).new np
      lcg_off
      refine of_letter (hb2.go0 g3) (by omega) upd_same fun c H4 hc g4 hb4 => ?_
      lcg_off
      refine ⟨_, l ++ [c], g2.trans (g3.weak.trans g4), hb4, by rw [List.length_append, hl]; rfl, fun y hy => ?_, _, rfl⟩
      rcases List.mem_append.mp hy with hy | hy
      · exact hok y hy
      · simp only [List.mem_singleton] at hy
        subst hy
        exact (by decide : ∀ c ∈ smalls, c < 128) y hc
    · rintro σ H2 ⟨F2, l, g2, hb2, hl, hok, u, rfl⟩
      lcg_off
      exact k F2 H2 l g2 (hb2.le (by omega)) (by omega) hok
end
end Er

set_option maxHeartbeats 16000000
namespace Er
open PySem L2 Hk
local macro_rules | `(tactic| array_mem_dec) => `(tactic| with_reducible first
  | assumption | exact upd_same
  | (apply upd_new; assumption; array_mem_dec)
  | (apply upd_old; tlg_ne; array_mem_dec)
  | (apply same_at; assumption; array_mem_dec))
local macro_rules | `(tactic| tlg_ne) => `(tactic| with_reducible first
  | assumption | (apply Ne.symm; assumption)
  | (apply ne_new; assumption; array_mem_dec) | (apply ne_new'; assumption; array_mem_dec)
  | (apply ne_of; assumption; assumption; (with_unfolding_all (intro z; cases z; done))))
local macro_rules | `(tactic| decreasing_trivial_pre_omega) => `(tactic| with_reducible first
  | assumption | (apply sqL_of; array_mem_dec) | (apply sqT_of; array_mem_dec)
  | (apply Same.seq; assumption; decreasing_trivial_pre_omega) | (apply sqT_same; assumption; decreasing_trivial_pre_omega)
  | (apply sqL_new; assumption; decreasing_trivial_pre_omega) | (apply sqL_upd; tlg_ne; decreasing_trivial_pre_omega))
local macro_rules | `(tactic| kpt_turns) => `(tactic| with_reducible first
  | assumption | exact Same.refl _ | (apply same_ext; kpt_turns; assumption) | (apply same_mut; kpt_turns; keq_hits) | (apply same_step; assumption; kpt_turns))
local macro_rules | `(tactic| keq_hits) => `(tactic| with_reducible first | assumption | (apply same_none; assumption; keq_hits))
local macro_rules | `(tactic| sizeOf_list_dec) => `(tactic| first | (with_reducible assumption) | (with_reducible_and_instances omega) | (with_unfolding_all decide))
local macro_rules | `(tactic| array_get_dec) => `(tactic| first | (with_reducible assumption) | (apply sz_of; (with_unfolding_all simp); done) | (apply sz_of; omega) | (apply sz_lt; (with_unfolding_all simp); done) | (apply sz_lt; omega))
local macro_rules | `(tactic| keq_rows) => `(tactic| with_reducible first
  | apply rd_asgN | apply rd_seq | apply rd_parA | apply rd_par3A | apply rd_par2 | apply rd_par3 | apply rd_m1 | apply rd_isStr | apply rd_cval | apply rd_asg | apply rd_gname | apply rd_op | (show tVar _ _ _ _; refine rd_var (by with_unfolding_all rfl) ?_) | apply rd_c | apply rd_I0
  | apply rd_cons | apply rd_nil | apply rd_cb | apply rd_test | apply rd_bl | apply rd_fld | apply rd_drop | apply rd_ret | apply rd_retN | apply rd_next
  | apply rd_ifS | apply rd_un | apply rd_B | apply rd_and | apply rd_or | apply rd_not | apply rd_andV | apply rd_orV | apply rd_notV | apply rd_if
  | apply rd_int | apply rd_abs | apply rd_max | apply rd_min | apply rd_strS | apply rd_U
  | apply rd_eqTx | apply rd_neTx | apply rd_inTx | apply rd_notInTx | apply rd_fmt | (show FmtK (.str (tx _)) _ _; refine rd_fmtT (by omega) ?_) | apply rd_jsC | apply rd_jsN | (show JsK _ (tx _) _ (.str (tx _)) _ _; refine rd_JsK (by first | omega | (simp; done) | (simp; omega)) ?_) | (show rAddStr (.str (tx _)) (.str (tx _)) _ _; refine rd_addT (by first | omega | (simp; done) | (simp; omega)) ?_) | (show rLenStr [.str (tx _)] _ _; refine rd_lenTx (by omega) ?_)
  | (show rEq _ _ _ _; refine rd_eq (by with_unfolding_all rfl) ?_) | (show rNe _ _ _ _; refine rd_ne (by with_unfolding_all rfl) ?_) | apply rd_isNone | apply rd_notNone
  | (show rIxL _ _ _ _ _; refine rd_ixL (by decreasing_trivial_pre_omega) (by with_unfolding_all rfl) ?_) | (show rIxT _ _ _ _ _; refine rd_ixT (by decreasing_trivial_pre_omega) (by with_unfolding_all rfl) ?_)
  | (show rLenSeq _ _ _ _; refine rd_lenL (by decreasing_trivial_pre_omega) ?_) | (show rLenSeq _ _ _ _; refine rd_lenT (by decreasing_trivial_pre_omega) ?_)
  | (show rI _ _ _ _ _ _; refine rd_mod (by sizeOf_list_dec) ?_) | (show rI _ _ _ _ _ _; refine rd_div (by sizeOf_list_dec) (by sizeOf_list_dec) ?_) | (show rI _ _ _ _ _ _; refine rd_mulR (by sizeOf_list_dec) (by sizeOf_list_dec) ?_) | (show rI _ _ _ _ _ _; refine rd_mulL (by sizeOf_list_dec) (by sizeOf_list_dec) ?_) | (show rI _ _ _ _ _ _; refine rd_pow (by sizeOf_list_dec) ?_)
  | (show rSetL _ _ _ _ _; refine rd_setL (by array_mem_dec) (by with_unfolding_all rfl) ?_)
  | apply rd_inSign | apply rd_notInSign | apply rd_tupK | apply rd_lstK | apply rd_sl | apply rd_noPart | apply rd_part | apply rd_isInt
  | apply rd_gsub | apply rd_gcons | apply rd_gnil | apply rd_call | apply rd_meth | apply rd_make | apply rd_smeth | apply rd_isC | apply rd_smethK | apply rd_cmeth | apply rd_cmethK
  | apply rd_bm | apply rd_bm0 | (show BmK _ _ _ _ _ _ _ _; refine rd_bmL (by array_mem_dec) ?_) | (show Bm0K _ _ _ _ _ _; refine rd_bm0L (by array_mem_dec) ?_) | apply rd_sfld | apply rd_aug | apply rd_rAdd | apply rd_brk | apply rd_cont
  | apply rd_for | apply rd_iList | (show IList _ _ _ _; refine rd_IList (by decreasing_trivial_pre_omega) ?_) | apply rd_iTup | (show ITup _ _ _ _; refine rd_ITup (by decreasing_trivial_pre_omega) ?_) | apply rd_iEnum | (show IEnum _ _ _ _; refine rd_IEnum (by decreasing_trivial_pre_omega) ?_) | apply rd_iRng1 | (show IRng1 _ _ _; refine rd_IRng1 (by sizeOf_list_dec) (by sizeOf_list_dec) ?_)
  | (show rLenStr _ _ _; refine rd_lenS (by array_get_dec) ?_) | (show rAddStr _ _ _ _; refine rd_addS (by array_get_dec) ?_) | (show rSlS _ _ _ _ _; refine rd_slS (by array_get_dec) ?_) | apply rd_lc | apply rd_yes | (show gTup _ _ _ _ _ _ _; refine rd_gtup (by decreasing_trivial_pre_omega) (by with_unfolding_all rfl) ?_) | (show tMakeL _ _ _ _ _ _ _ _; refine rd_makeL (by with_unfolding_all rfl) ?_))
local macro_rules | `(tactic| kas_types) => `(tactic| with_reducible first | apply rd_isi_int_int | apply rd_isi_int_bool | apply rd_isi_int_str | apply rd_isi_int_list | apply rd_isi_int_tuple | apply rd_isi_bool_int | apply rd_isi_bool_bool | apply rd_isi_bool_str | apply rd_isi_bool_list | apply rd_isi_bool_tuple | apply rd_isi_str_int | apply rd_isi_str_bool | apply rd_isi_str_str | apply rd_isi_str_list | apply rd_isi_str_tuple | (show rIsi _ _ _ _; refine rd_isi_list_int (by array_mem_dec) ?_) | (show rIsi _ _ _ _; refine rd_isi_list_bool (by array_mem_dec) ?_) | (show rIsi _ _ _ _; refine rd_isi_list_str (by array_mem_dec) ?_) | (show rIsi _ _ _ _; refine rd_isi_list_list (by array_mem_dec) ?_) | (show rIsi _ _ _ _; refine rd_isi_list_tuple (by array_mem_dec) ?_) | (show rIsi _ _ _ _; refine rd_isi_tuple_int (by array_mem_dec) ?_) | (show rIsi _ _ _ _; refine rd_isi_tuple_bool (by array_mem_dec) ?_) | (show rIsi _ _ _ _; refine rd_isi_tuple_str (by array_mem_dec) ?_) | (show rIsi _ _ _ _; refine rd_isi_tuple_list (by array_mem_dec) ?_) | (show rIsi _ _ _ _; refine rd_isi_tuple_tuple (by array_mem_dec) ?_) | apply rd_isi_NoneType_int | apply rd_isi_NoneType_bool | apply rd_isi_NoneType_str | apply rd_isi_NoneType_list | apply rd_isi_NoneType_tuple)
local macro_rules | `(tactic| lcg_src) => `(tactic| repeat keq_rows)

local macro_rules | `(tactic| lcg_sub) => `(tactic| with_reducible first | apply rd_chain | apply rd_xmk | apply rd_xst | apply rd_xg)
local macro_rules | `(tactic| lcg_off) => `(tactic| repeat (first | keq_rows | lcg_sub))
section
variable {P : Program} {w : World} {K : PySem.W.Frag} {mg : Str → Option Value} {base : Heap} {a : Ad}
theorem ok_BadLibrary_init (T : Txt K mg a) : FnOk P w K mg base CX0 1 a.f_BadLibrary_init a.fd_BadLibrary_init ["self", "at"]  (sp_xe1 a.C_BadLibrary "at") := by
  refine T.F_BadLibrary_init.ok sc_BadLibrary_init (fun vs H Q E h => ?_) (fun cdv A outer s H vs Q E hr h => ?_)
  · obtain ⟨_, _, rfl, _⟩ := h
    rfl
  · obtain ⟨e, v, rfl, he, k⟩ := h
    refine ⟨_, ((pss_one (ps_xst (pv 0) (pv 1)))), ?_⟩
    try simp only [cxK]
    lcg_off
    exact ⟨e, _, rfl, T.ox_BadLibrary, T.no_BadLibrary_at, .inl ⟨he, fun dx h1 h2 => k dx h1 h2⟩⟩
theorem ok_BadWorld_init (T : Txt K mg a) : FnOk P w K mg base CX0 1 a.f_BadWorld_init a.fd_BadWorld_init ["self", "at"]  (sp_xe1 a.C_BadWorld "at") := by
  refine T.F_BadWorld_init.ok sc_BadWorld_init (fun vs H Q E h => ?_) (fun cdv A outer s H vs Q E hr h => ?_)
  · obtain ⟨_, _, rfl, _⟩ := h
    rfl
  · obtain ⟨e, v, rfl, he, k⟩ := h
    refine ⟨_, ((pss_one (ps_xst (pv 0) (pv 1)))), ?_⟩
    try simp only [cxK]
    lcg_off
    exact ⟨e, _, rfl, T.ox_BadWorld, T.no_BadWorld_at, .inl ⟨he, fun dx h1 h2 => k dx h1 h2⟩⟩
theorem ok_BadValue_init (T : Txt K mg a) : FnOk P w K mg base CX0 1 a.f_BadValue_init a.fd_BadValue_init ["self", "field"]  (sp_xe1 a.C_BadValue "field") := by
  refine T.F_BadValue_init.ok sc_BadValue_init (fun vs H Q E h => ?_) (fun cdv A outer s H vs Q E hr h => ?_)
  · obtain ⟨_, _, rfl, _⟩ := h
    rfl
  · obtain ⟨e, v, rfl, he, k⟩ := h
    refine ⟨_, ((pss_one (ps_xst (pv 0) (pv 1)))), ?_⟩
    try simp only [cxK]
    lcg_off
    exact ⟨e, _, rfl, T.ox_BadValue, T.no_BadValue_field, .inl ⟨he, fun dx h1 h2 => k dx h1 h2⟩⟩
theorem ok_BadExpression_init (T : Txt K mg a) : FnOk P w K mg base CX0 1 a.f_BadExpression_init a.fd_BadExpression_init ["self", "at"]  (sp_xe1 a.C_BadExpression "at") := by
  refine T.F_BadExpression_init.ok sc_BadExpression_init (fun vs H Q E h => ?_) (fun cdv A outer s H vs Q E hr h => ?_)
  · obtain ⟨_, _, rfl, _⟩ := h
    rfl
  · obtain ⟨e, v, rfl, he, k⟩ := h
    refine ⟨_, ((pss_one (ps_xst (pv 0) (pv 1)))), ?_⟩
    try simp only [cxK]
    lcg_off
    exact ⟨e, _, rfl, T.ox_BadExpression, T.no_BadExpression_at, .inl ⟨he, fun dx h1 h2 => k dx h1 h2⟩⟩
theorem ok_BadFamily_init (T : Txt K mg a) : FnOk P w K mg base CX0 1 a.f_BadFamily_init a.fd_BadFamily_init ["self", "word"]  (sp_xe1 a.C_BadFamily "word") := by
  refine T.F_BadFamily_init.ok sc_BadFamily_init (fun vs H Q E h => ?_) (fun cdv A outer s H vs Q E hr h => ?_)
  · obtain ⟨_, _, rfl, _⟩ := h
    rfl
  · obtain ⟨e, v, rfl, he, k⟩ := h
    refine ⟨_, ((pss_one (ps_xst (pv 0) (pv 1)))), ?_⟩
    try simp only [cxK]
    lcg_off
    exact ⟨e, _, rfl, T.ox_BadFamily, T.no_BadFamily_word, .inl ⟨he, fun dx h1 h2 => k dx h1 h2⟩⟩
theorem ok_BadVirtue_init (T : Txt K mg a) : FnOk P w K mg base CX0 1 a.f_BadVirtue_init a.fd_BadVirtue_init ["self", "word"]  (sp_xe1 a.C_BadVirtue "word") := by
  refine T.F_BadVirtue_init.ok sc_BadVirtue_init (fun vs H Q E h => ?_) (fun cdv A outer s H vs Q E hr h => ?_)
  · obtain ⟨_, _, rfl, _⟩ := h
    rfl
  · obtain ⟨e, v, rfl, he, k⟩ := h
    refine ⟨_, ((pss_one (ps_xst (pv 0) (pv 1)))), ?_⟩
    try simp only [cxK]
    lcg_off
    exact ⟨e, _, rfl, T.ox_BadVirtue, T.no_BadVirtue_word, .inl ⟨he, fun dx h1 h2 => k dx h1 h2⟩⟩
theorem ok_BadMaker_init (T : Txt K mg a) : FnOk P w K mg base CX0 1 a.f_BadMaker_init a.fd_BadMaker_init ["self", "maker"]  (sp_xe1 a.C_BadMaker "maker") := by
  refine T.F_BadMaker_init.ok sc_BadMaker_init (fun vs H Q E h => ?_) (fun cdv A outer s H vs Q E hr h => ?_)
  · obtain ⟨_, _, rfl, _⟩ := h
    rfl
  · obtain ⟨e, v, rfl, he, k⟩ := h
    refine ⟨_, ((pss_one (ps_xst (pv 0) (pv 1)))), ?_⟩
    try simp only [cxK]
    lcg_off
    exact ⟨e, _, rfl, T.ox_BadMaker, T.no_BadMaker_maker, .inl ⟨he, fun dx h1 h2 => k dx h1 h2⟩⟩
theorem ok_NoClass_init (T : Txt K mg a) : FnOk P w K mg base CX0 1 a.f_NoClass_init a.fd_NoClass_init ["self", "name"]  (sp_xe1 a.C_NoClass "name") := by
  refine T.F_NoClass_init.ok sc_NoClass_init (fun vs H Q E h => ?_) (fun cdv A outer s H vs Q E hr h => ?_)
  · obtain ⟨_, _, rfl, _⟩ := h
    rfl
  · obtain ⟨e, v, rfl, he, k⟩ := h
    refine ⟨_, ((pss_one (ps_xst (pv 0) (pv 1)))), ?_⟩
    try simp only [cxK]
    lcg_off
    exact ⟨e, _, rfl, T.ox_NoClass, T.no_NoClass_name, .inl ⟨he, fun dx h1 h2 => k dx h1 h2⟩⟩
theorem ok_NoSign_init (T : Txt K mg a) : FnOk P w K mg base CX0 1 a.f_NoSign_init a.fd_NoSign_init ["self", "sign"]  (sp_xe1 a.C_NoSign "sign") := by
  refine T.F_NoSign_init.ok sc_NoSign_init (fun vs H Q E h => ?_) (fun cdv A outer s H vs Q E hr h => ?_)
  · obtain ⟨_, _, rfl, _⟩ := h
    rfl
  · obtain ⟨e, v, rfl, he, k⟩ := h
    refine ⟨_, ((pss_one (ps_xst (pv 0) (pv 1)))), ?_⟩
    try simp only [cxK]
    lcg_off
    exact ⟨e, _, rfl, T.ox_NoSign, T.no_NoSign_sign, .inl ⟨he, fun dx h1 h2 => k dx h1 h2⟩⟩
theorem ok_TooMany_init (T : Txt K mg a) : FnOk P w K mg base CX0 1 a.f_TooMany_init a.fd_TooMany_init ["self", "what"]  (sp_xe1 a.C_TooMany "what") := by
  refine T.F_TooMany_init.ok sc_TooMany_init (fun vs H Q E h => ?_) (fun cdv A outer s H vs Q E hr h => ?_)
  · obtain ⟨_, _, rfl, _⟩ := h
    rfl
  · obtain ⟨e, v, rfl, he, k⟩ := h
    refine ⟨_, ((pss_one (ps_xst (pv 0) (pv 1)))), ?_⟩
    try simp only [cxK]
    lcg_off
    exact ⟨e, _, rfl, T.ox_TooMany, T.no_TooMany_what, .inl ⟨he, fun dx h1 h2 => k dx h1 h2⟩⟩
theorem ok_Unlike_init (T : Txt K mg a) : FnOk P w K mg base CX0 1 a.f_Unlike_init a.fd_Unlike_init ["self", "at"]  (sp_xe1 a.C_Unlike "at") := by
  refine T.F_Unlike_init.ok sc_Unlike_init (fun vs H Q E h => ?_) (fun cdv A outer s H vs Q E hr h => ?_)
  · obtain ⟨_, _, rfl, _⟩ := h
    rfl
  · obtain ⟨e, v, rfl, he, k⟩ := h
    refine ⟨_, ((pss_one (ps_xst (pv 0) (pv 1)))), ?_⟩
    try simp only [cxK]
    lcg_off
    exact ⟨e, _, rfl, T.ox_Unlike, T.no_Unlike_at, .inl ⟨he, fun dx h1 h2 => k dx h1 h2⟩⟩
theorem ok_Surplus_init (T : Txt K mg a) : FnOk P w K mg base CX0 1 a.f_Surplus_init a.fd_Surplus_init ["self", "name", "many"]  (sp_xe2 a.C_Surplus "name" "many") := by
  refine T.F_Surplus_init.ok sc_Surplus_init (fun vs H Q E h => ?_) (fun cdv A outer s H vs Q E hr h => ?_)
  · obtain ⟨_, _, _, rfl, _⟩ := h
    rfl
  · obtain ⟨e, v, v2, rfl, he, k⟩ := h
    refine ⟨_, ((pss_cons (ps_xst (pv 0) (pv 1))
 (pss_one (ps_xst (pv 0) (pv 2))))), ?_⟩
    try simp only [cxK]
    lcg_off
    refine ⟨e, _, rfl, T.ox_Surplus, T.no_Surplus_name, .inl ⟨he, fun dx h1 h2 => ?_⟩⟩
    lcg_off
    exact ⟨e, _, rfl, T.ox_Surplus, T.no_Surplus_many, .inr ⟨dx, _, upd_same, upd_old h2 upd_same, (by show 1 ≤ 900; decide), k dx h1 h2⟩⟩
theorem ok_Lacking_init (T : Txt K mg a) : FnOk P w K mg base CX0 1 a.f_Lacking_init a.fd_Lacking_init ["self", "name", "field"]  (sp_xe2 a.C_Lacking "name" "field") := by
  refine T.F_Lacking_init.ok sc_Lacking_init (fun vs H Q E h => ?_) (fun cdv A outer s H vs Q E hr h => ?_)
  · obtain ⟨_, _, _, rfl, _⟩ := h
    rfl
  · obtain ⟨e, v, v2, rfl, he, k⟩ := h
    refine ⟨_, ((pss_cons (ps_xst (pv 0) (pv 1))
 (pss_one (ps_xst (pv 0) (pv 2))))), ?_⟩
    try simp only [cxK]
    lcg_off
    refine ⟨e, _, rfl, T.ox_Lacking, T.no_Lacking_name, .inl ⟨he, fun dx h1 h2 => ?_⟩⟩
    lcg_off
    exact ⟨e, _, rfl, T.ox_Lacking, T.no_Lacking_field, .inr ⟨dx, _, upd_same, upd_old h2 upd_same, (by show 1 ≤ 900; decide), k dx h1 h2⟩⟩
theorem ok_Unknown_init (T : Txt K mg a) : FnOk P w K mg base CX0 1 a.f_Unknown_init a.fd_Unknown_init ["self", "name", "field"]  (sp_xe2 a.C_Unknown "name" "field") := by
  refine T.F_Unknown_init.ok sc_Unknown_init (fun vs H Q E h => ?_) (fun cdv A outer s H vs Q E hr h => ?_)
  · obtain ⟨_, _, _, rfl, _⟩ := h
    rfl
  · obtain ⟨e, v, v2, rfl, he, k⟩ := h
    refine ⟨_, ((pss_cons (ps_xst (pv 0) (pv 1))
 (pss_one (ps_xst (pv 0) (pv 2))))), ?_⟩
    try simp only [cxK]
    lcg_off
    refine ⟨e, _, rfl, T.ox_Unknown, T.no_Unknown_name, .inl ⟨he, fun dx h1 h2 => ?_⟩⟩
    lcg_off
    exact ⟨e, _, rfl, T.ox_Unknown, T.no_Unknown_field, .inr ⟨dx, _, upd_same, upd_old h2 upd_same, (by show 1 ≤ 900; decide), k dx h1 h2⟩⟩
theorem ok_Failed_init (T : Txt K mg a) : FnOk P w K mg base CX0 1 a.f_Failed_init a.fd_Failed_init ["self", "at", "reason"]  (sp_xe2 a.C_Failed "at" "reason") := by
  refine T.F_Failed_init.ok sc_Failed_init (fun vs H Q E h => ?_) (fun cdv A outer s H vs Q E hr h => ?_)
  · obtain ⟨_, _, _, rfl, _⟩ := h
    rfl
  · obtain ⟨e, v, v2, rfl, he, k⟩ := h
    refine ⟨_, ((pss_cons (ps_xst (pv 0) (pv 1))
 (pss_one (ps_xst (pv 0) (pv 2))))), ?_⟩
    try simp only [cxK]
    lcg_off
    refine ⟨e, _, rfl, T.ox_Failed, T.no_Failed_at, .inl ⟨he, fun dx h1 h2 => ?_⟩⟩
    lcg_off
    exact ⟨e, _, rfl, T.ox_Failed, T.no_Failed_reason, .inr ⟨dx, _, upd_same, upd_old h2 upd_same, (by show 1 ≤ 900; decide), k dx h1 h2⟩⟩
/-! ### of which classes an error is -/
def Cs (a : Ad) : List Addr := [a.C_BadLibrary, a.C_BadWorld, a.C_BadValue, a.C_BadExpression, a.C_BadFamily, a.C_BadVirtue, a.C_BadMaker, a.C_NoClass, a.C_NoSign, a.C_TooMany, a.C_Unlike, a.C_Surplus, a.C_Lacking, a.C_Unknown, a.C_Failed]
section
variable {C D : Addr} {tail : List Value}
theorem mro_some {m : List Value} (h : (PySem.W.clsIn K C).map (·.mro) = some m) : ∃ cd, PySem.W.clsIn K C = some cd ∧ cd.mro = m := by
  cases q : PySem.W.clsIn K C with
  | none => rw [q] at h; cases h
  | some cd => rw [q] at h; exact ⟨cd, rfl, by simpa using h⟩
theorem kit_sub {b : Value} (h : (PySem.W.clsIn K C).map (·.mro) = some (.ref C :: tail)) : PySem.W.subIn K (.ref C) b = some ((Value.ref C :: tail).contains b) := by
  obtain ⟨cd, h1, h2⟩ := mro_some h
  show PySem.W.mroIn K C b = _
  unfold PySem.W.mroIn
  rw [h1, Option.bind_some, h2]
  rfl
theorem kit_r (h : (PySem.W.clsIn K C).map (·.mro) = some (.ref C :: tail)) (hD : (PySem.W.clsIn K D).isSome = true) (tD : PySem.W.typeIn K (.ref D) = some (.type "type")) :
    PySem.W.kitOne K (.ref C) (.ref D) = some ((Value.ref C :: tail).contains (.ref D)) := by
  unfold PySem.W.kitOne
  by_cases e : (Value.ref C == Value.ref D) = true
  · rw [if_pos e, ← beq_iff_eq.mp e]
    simp
  · rw [if_neg e]
    show (if ((PySem.W.clsIn K D).isSome && PySem.W.typeIn K (.ref D) == some (.type "type")) = true then PySem.W.subIn K (.ref C) (.ref D) else none) = _
    rw [if_pos (by rw [hD, tD]; rfl)]
    exact kit_sub h
theorem kit_t {T : String} (h : (PySem.W.clsIn K C).map (·.mro) = some (.ref C :: tail)) (hT : PySem.W.kitMeta T = true) : PySem.W.kitOne K (.ref C) (.type T) = some ((Value.ref C :: tail).contains (.type T)) := by
  unfold PySem.W.kitOne
  rw [if_neg (by intro z; have := beq_iff_eq.mp z; cases this)]
  show (if PySem.W.kitMeta T = true then PySem.W.subIn K (.ref C) (.type T) else none) = _
  rw [if_pos hT]
  exact kit_sub h
end
structure KindE (K : PySem.W.Frag) (a : Ad) (C : Addr) (k : Nat) : Prop where
  xf : XfC K C
  xc : ExcC K C
  kd : ∀ j D, (Cs a)[j]? = some D → PySem.W.kitOne K (.ref C) (.ref D) = some (decide (j = k))
  hb : PySem.W.kitOne K (.ref C) (.ref a.C_HeirsbackError) = some (decide (k < 11))
  ve : PySem.W.kitOne K (.ref C) (.type "ValueError") = some (decide (k < 11))
  le : PySem.W.kitOne K (.ref C) (.type "LookupError") = some (decide (11 ≤ k))
  ke : PySem.W.kitOne K (.ref C) (.type "KeyError") = some false
  ie : PySem.W.kitOne K (.ref C) (.type "IndexError") = some false
def tailE (a : Ad) (k : Nat) : List Value := if k < 11 then [.ref a.C_HeirsbackError, .type "ValueError", .type "Exception", .type "BaseException", .type "object"] else [.type "LookupError", .type "Exception", .type "BaseException", .type "object"]
theorem hb_cls (T : Txt K mg a) : (PySem.W.clsIn K a.C_HeirsbackError).isSome = true := by
  obtain ⟨cd, h, _⟩ := PySem.W.any_some T.xhd_hb
  rw [h]
  rfl
theorem cs_at (T : Txt K mg a) : ∀ (j : Nat) (D : Addr), (Cs a)[j]? = some D → (PySem.W.clsIn K D).map (·.mro) = some (.ref D :: tailE a j) ∧ PySem.W.typeIn K (.ref D) = some (.type "type")
  | 0, D, h => by cases h; exact ⟨T.me_BadLibrary, T.ty_BadLibrary⟩
  | 1, D, h => by cases h; exact ⟨T.me_BadWorld, T.ty_BadWorld⟩
  | 2, D, h => by cases h; exact ⟨T.me_BadValue, T.ty_BadValue⟩
  | 3, D, h => by cases h; exact ⟨T.me_BadExpression, T.ty_BadExpression⟩
  | 4, D, h => by cases h; exact ⟨T.me_BadFamily, T.ty_BadFamily⟩
  | 5, D, h => by cases h; exact ⟨T.me_BadVirtue, T.ty_BadVirtue⟩
  | 6, D, h => by cases h; exact ⟨T.me_BadMaker, T.ty_BadMaker⟩
  | 7, D, h => by cases h; exact ⟨T.me_NoClass, T.ty_NoClass⟩
  | 8, D, h => by cases h; exact ⟨T.me_NoSign, T.ty_NoSign⟩
  | 9, D, h => by cases h; exact ⟨T.me_TooMany, T.ty_TooMany⟩
  | 10, D, h => by cases h; exact ⟨T.me_Unlike, T.ty_Unlike⟩
  | 11, D, h => by cases h; exact ⟨T.me_Surplus, T.ty_Surplus⟩
  | 12, D, h => by cases h; exact ⟨T.me_Lacking, T.ty_Lacking⟩
  | 13, D, h => by cases h; exact ⟨T.me_Unknown, T.ty_Unknown⟩
  | 14, D, h => by cases h; exact ⟨T.me_Failed, T.ty_Failed⟩
  | j + 15, D, h => by simp [Cs] at h
theorem cs_inj (T : Txt K mg a) {i j : Nat} {C : Addr} (h : (Cs a)[i]? = some C) (h2 : (Cs a)[j]? = some C) : i = j := by
  have nd : (Cs a ++ [a.C_HeirsbackError]).Nodup := T.rv_nd
  exact (List.getElem?_inj (List.getElem?_eq_some_iff.mp h).1 (List.nodup_append.mp nd).1).mp (h.trans h2.symm)
theorem cs_hb (T : Txt K mg a) {i : Nat} (h : (Cs a)[i]? = some a.C_HeirsbackError) : False := by
  have nd : (Cs a ++ [a.C_HeirsbackError]).Nodup := T.rv_nd
  exact (List.nodup_append.mp nd).2.2 _ (List.mem_of_getElem? h) _ (by simp) rfl
theorem tail_ref {k : Nat} {D : Addr} (h : Value.ref D ∈ tailE a k) : D = a.C_HeirsbackError ∧ k < 11 := by
  unfold tailE at h
  split at h
  · rename_i q
    simp at h
    exact ⟨h, q⟩
  · simp at h
theorem kind_of (T : Txt K mg a) {k : Nat} {C : Addr} (hC : (Cs a)[k]? = some C) (xf : XfC K C) (xc : ExcC K C) : KindE K a C k := by
  obtain ⟨me, ty⟩ := cs_at T k C hC
  have ns : ∀ {j : Nat} {D : Addr}, (Cs a)[j]? = some D → (PySem.W.clsIn K D).isSome = true := fun {j D} h => by
    obtain ⟨cd, h1, _⟩ := mro_some (cs_at T j D h).1
    rw [h1]
    rfl
  have ct : ∀ t : String, (Value.ref C :: tailE a k).contains (.type t) = (tailE a k).contains (.type t) := fun t => by
    rw [List.contains_cons]
    rfl
  refine ⟨xf, xc, fun j D h => ?_, ?_, ?_, ?_, ?_, ?_⟩
  · rw [kit_r me (ns h) (cs_at T j D h).2, List.contains_eq_mem]
    congr 1
    refine decide_eq_decide.mpr ⟨fun z => ?_, fun z => ?_⟩
    · rcases List.mem_cons.mp z with z | z
      · cases z
        exact cs_inj T h hC
      · have := (tail_ref z).1
        subst this
        exact (cs_hb T h).elim
    · subst z
      rw [h] at hC
      cases hC
      exact List.mem_cons_self
  · rw [kit_r me (hb_cls T) T.ty_HeirsbackError, List.contains_eq_mem]
    congr 1
    refine decide_eq_decide.mpr ⟨fun z => ?_, fun z => ?_⟩
    · rcases List.mem_cons.mp z with z | z
      · cases z
        exact (cs_hb T hC).elim
      · exact (tail_ref z).2
    · refine List.mem_cons_of_mem _ ?_
      unfold tailE
      rw [if_pos z]
      exact List.mem_cons_self
  · rw [kit_t me (by decide +kernel), ct]
    unfold tailE
    split
    · rename_i q
      rw [decide_eq_true q]
      simp [List.contains_cons]
    · rename_i q
      rw [decide_eq_false q]
      simp [List.contains_cons]
  · rw [kit_t me (by decide +kernel), ct]
    unfold tailE
    split
    · rename_i q
      rw [decide_eq_false (by omega)]
      simp [List.contains_cons]
    · rename_i q
      rw [decide_eq_true (by omega)]
      simp [List.contains_cons]
  · rw [kit_t me (by decide +kernel), ct]
    unfold tailE
    split <;> simp [List.contains_cons]
  · rw [kit_t me (by decide +kernel), ct]
    unfold tailE
    split <;> simp [List.contains_cons]
theorem kind_at (T : Txt K mg a) : ∀ (k : Nat) (C : Addr), (Cs a)[k]? = some C → KindE K a C k
  | 0, C, h => by cases h; exact kind_of T rfl T.xf_BadLibrary T.xc_BadLibrary
  | 1, C, h => by cases h; exact kind_of T rfl T.xf_BadWorld T.xc_BadWorld
  | 2, C, h => by cases h; exact kind_of T rfl T.xf_BadValue T.xc_BadValue
  | 3, C, h => by cases h; exact kind_of T rfl T.xf_BadExpression T.xc_BadExpression
  | 4, C, h => by cases h; exact kind_of T rfl T.xf_BadFamily T.xc_BadFamily
  | 5, C, h => by cases h; exact kind_of T rfl T.xf_BadVirtue T.xc_BadVirtue
  | 6, C, h => by cases h; exact kind_of T rfl T.xf_BadMaker T.xc_BadMaker
  | 7, C, h => by cases h; exact kind_of T rfl T.xf_NoClass T.xc_NoClass
  | 8, C, h => by cases h; exact kind_of T rfl T.xf_NoSign T.xc_NoSign
  | 9, C, h => by cases h; exact kind_of T rfl T.xf_TooMany T.xc_TooMany
  | 10, C, h => by cases h; exact kind_of T rfl T.xf_Unlike T.xc_Unlike
  | 11, C, h => by cases h; exact kind_of T rfl T.xf_Surplus T.xc_Surplus
  | 12, C, h => by cases h; exact kind_of T rfl T.xf_Lacking T.xc_Lacking
  | 13, C, h => by cases h; exact kind_of T rfl T.xf_Unknown T.xc_Unknown
  | 14, C, h => by cases h; exact kind_of T rfl T.xf_Failed T.xc_Failed
  | k + 15, C, h => by simp [Cs] at h
def bits (k : Nat) : List Bool := (List.range 15).map fun j => decide (j = k)
def sp_law_kinds (K : PySem.W.Frag) (a : Ad) : Sp := fun vs H Q _ => ∃ (F : Hp) (C e : Addr) (k : Nat) (fs : List (Str × V)), vs = [.ref e] ∧ Same F H ∧ ErrAt F C e fs ∧ KindE K a C k ∧
  ∀ F' H' p, Grow [] F H F' H' → F' p = some (.lst ((bits k).map V.bl)) → Q (.ref p) H'
theorem ok_law_kinds (T : Txt K mg a) : FnOk P w K mg base CX0 1 a.f_law_kinds a.fd_law_kinds ["_law_one"]  (sp_law_kinds K a) := by
  refine T.F_law_kinds.ok sc_law_kinds (fun vs H Q E h => ?_) (fun cdv A outer s H vs Q E hr h => ?_)
  · obtain ⟨_, _, _, _, _, rfl, _⟩ := h
    rfl
  · obtain ⟨F, C, e, k, fs, rfl, fh, he, kd, q⟩ := h
    refine ⟨_, ((pss_cons (ps_set (i := 1) sc_law_kinds.nd rfl (Or.inl rfl) (pe_lst (pa_cons (pe_callB (call_isV (K := K)) (by rfl) T.n_isinstance (by decide +kernel) (pa_cons (pv 0) (pa_cons (pe_glob (v := .ref _) rfl T.g_BadLibrary rfl) pa_nil))) (pa_cons (pe_callB (call_isV (K := K)) (by rfl) T.n_isinstance (by decide +kernel) (pa_cons (pv 0) (pa_cons (pe_glob (v := .ref _) rfl T.g_BadWorld rfl) pa_nil))) (pa_cons (pe_callB (call_isV (K := K)) (by rfl) T.n_isinstance (by decide +kernel) (pa_cons (pv 0) (pa_cons (pe_glob (v := .ref _) rfl T.g_BadValue rfl) pa_nil))) pa_nil)))))
 (pss_cons (ps_set (i := 1) sc_law_kinds.nd rfl (Or.inl rfl) (pe_op op_cat (pv 1) (pe_lst (pa_cons (pe_callB (call_isV (K := K)) (by rfl) T.n_isinstance (by decide +kernel) (pa_cons (pv 0) (pa_cons (pe_glob (v := .ref _) rfl T.g_BadExpression rfl) pa_nil))) (pa_cons (pe_callB (call_isV (K := K)) (by rfl) T.n_isinstance (by decide +kernel) (pa_cons (pv 0) (pa_cons (pe_glob (v := .ref _) rfl T.g_BadFamily rfl) pa_nil))) (pa_cons (pe_callB (call_isV (K := K)) (by rfl) T.n_isinstance (by decide +kernel) (pa_cons (pv 0) (pa_cons (pe_glob (v := .ref _) rfl T.g_BadVirtue rfl) pa_nil))) pa_nil))))))
 (pss_cons (ps_set (i := 1) sc_law_kinds.nd rfl (Or.inl rfl) (pe_op op_cat (pv 1) (pe_lst (pa_cons (pe_callB (call_isV (K := K)) (by rfl) T.n_isinstance (by decide +kernel) (pa_cons (pv 0) (pa_cons (pe_glob (v := .ref _) rfl T.g_BadMaker rfl) pa_nil))) (pa_cons (pe_callB (call_isV (K := K)) (by rfl) T.n_isinstance (by decide +kernel) (pa_cons (pv 0) (pa_cons (pe_glob (v := .ref _) rfl T.g_NoClass rfl) pa_nil))) (pa_cons (pe_callB (call_isV (K := K)) (by rfl) T.n_isinstance (by decide +kernel) (pa_cons (pv 0) (pa_cons (pe_glob (v := .ref _) rfl T.g_NoSign rfl) pa_nil))) pa_nil))))))
 (pss_cons (ps_set (i := 1) sc_law_kinds.nd rfl (Or.inl rfl) (pe_op op_cat (pv 1) (pe_lst (pa_cons (pe_callB (call_isV (K := K)) (by rfl) T.n_isinstance (by decide +kernel) (pa_cons (pv 0) (pa_cons (pe_glob (v := .ref _) rfl T.g_TooMany rfl) pa_nil))) (pa_cons (pe_callB (call_isV (K := K)) (by rfl) T.n_isinstance (by decide +kernel) (pa_cons (pv 0) (pa_cons (pe_glob (v := .ref _) rfl T.g_Unlike rfl) pa_nil))) (pa_cons (pe_callB (call_isV (K := K)) (by rfl) T.n_isinstance (by decide +kernel) (pa_cons (pv 0) (pa_cons (pe_glob (v := .ref _) rfl T.g_Surplus rfl) pa_nil))) pa_nil))))))
 (pss_one (ps_ret (pe_op op_cat (pv 1) (pe_lst (pa_cons (pe_callB (call_isV (K := K)) (by rfl) T.n_isinstance (by decide +kernel) (pa_cons (pv 0) (pa_cons (pe_glob (v := .ref _) rfl T.g_Lacking rfl) pa_nil))) (pa_cons (pe_callB (call_isV (K := K)) (by rfl) T.n_isinstance (by decide +kernel) (pa_cons (pv 0) (pa_cons (pe_glob (v := .ref _) rfl T.g_Unknown rfl) pa_nil))) (pa_cons (pe_callB (call_isV (K := K)) (by rfl) T.n_isinstance (by decide +kernel) (pa_cons (pv 0) (pa_cons (pe_glob (v := .ref _) rfl T.g_Failed rfl) pa_nil))) pa_nil)))))))))))), ?_⟩
    try simp only [cxK]
    have h1 := he.mono fh
    lcg_off
    refine rd_isV h1 kd.xc (.own _) (kd.kd 0 _ rfl) ?_
    lcg_off
    refine rd_isV h1 kd.xc (.own _) (kd.kd 1 _ rfl) ?_
    lcg_off
    refine rd_isV h1 kd.xc (.own _) (kd.kd 2 _ rfl) ?_
    lcg_off
    refine newL fh fun F1 H1 p1 g1 _ e1 => ?_
    have c1 := g1
    have l1 := e1
    have h2 := (he.mono c1.ff).mono c1.fh
    lcg_off
    refine rd_isV h2 kd.xc (.own _) (kd.kd 3 _ rfl) ?_
    lcg_off
    refine rd_isV h2 kd.xc (.own _) (kd.kd 4 _ rfl) ?_
    lcg_off
    refine rd_isV h2 kd.xc (.own _) (kd.kd 5 _ rfl) ?_
    lcg_off
    refine newL c1.fh fun F2 H2 p2 g2 _ e2 => ?_
    have d1 := c1.trans g2
    lcg_off
    refine new_cat d1.fh (d1.fh _ _ (g2.ff _ _ l1)) (d1.fh _ _ e2) (by simp) fun G2 I2 q2 k2 _ l2 => ?_
    have c2 := d1.trans k2
    have h3 := (he.mono c2.ff).mono c2.fh
    lcg_off
    refine rd_isV h3 kd.xc (.own _) (kd.kd 6 _ rfl) ?_
    lcg_off
    refine rd_isV h3 kd.xc (.own _) (kd.kd 7 _ rfl) ?_
    lcg_off
    refine rd_isV h3 kd.xc (.own _) (kd.kd 8 _ rfl) ?_
    lcg_off
    refine newL c2.fh fun F3 H3 p3 g3 _ e3 => ?_
    have d2 := c2.trans g3
    lcg_off
    refine new_cat d2.fh (d2.fh _ _ (g3.ff _ _ l2)) (d2.fh _ _ e3) (by simp) fun G3 I3 q3 k3 _ l3 => ?_
    have c3 := d2.trans k3
    have h4 := (he.mono c3.ff).mono c3.fh
    lcg_off
    refine rd_isV h4 kd.xc (.own _) (kd.kd 9 _ rfl) ?_
    lcg_off
    refine rd_isV h4 kd.xc (.own _) (kd.kd 10 _ rfl) ?_
    lcg_off
    refine rd_isV h4 kd.xc (.own _) (kd.kd 11 _ rfl) ?_
    lcg_off
    refine newL c3.fh fun F4 H4 p4 g4 _ e4 => ?_
    have d3 := c3.trans g4
    lcg_off
    refine new_cat d3.fh (d3.fh _ _ (g4.ff _ _ l3)) (d3.fh _ _ e4) (by simp) fun G4 I4 q4 k4 _ l4 => ?_
    have c4 := d3.trans k4
    have h5 := (he.mono c4.ff).mono c4.fh
    lcg_off
    refine rd_isV h5 kd.xc (.own _) (kd.kd 12 _ rfl) ?_
    lcg_off
    refine rd_isV h5 kd.xc (.own _) (kd.kd 13 _ rfl) ?_
    lcg_off
    refine rd_isV h5 kd.xc (.own _) (kd.kd 14 _ rfl) ?_
    lcg_off
    refine newL c4.fh fun F5 H5 p5 g5 _ e5 => ?_
    have d4 := c4.trans g5
    lcg_off
    refine new_cat d4.fh (d4.fh _ _ (g5.ff _ _ l4)) (d4.fh _ _ e5) (by simp) fun G5 I5 q5 k5 _ l5 => ?_
    have c5 := d4.trans k5
    have h6 := (he.mono c5.ff).mono c5.fh
    exact q _ _ _ c5 l5
def sp_law_under (K : PySem.W.Frag) (a : Ad) : Sp := fun vs H Q _ => ∃ (F : Hp) (C e : Addr) (k : Nat) (fs : List (Str × V)), vs = [.ref e] ∧ Same F H ∧ ErrAt F C e fs ∧ KindE K a C k ∧
  ∀ F' H' p, Grow [] F H F' H' → F' p = some (.lst [.bl (decide (k < 11)), .bl (decide (k < 11)), .bl (decide (11 ≤ k)), .bl false]) → Q (.ref p) H'
theorem ok_law_under (T : Txt K mg a) : FnOk P w K mg base CX0 1 a.f_law_under a.fd_law_under ["_law_one"]  (sp_law_under K a) := by
  refine T.F_law_under.ok sc_law_under (fun vs H Q E h => ?_) (fun cdv A outer s H vs Q E hr h => ?_)
  · obtain ⟨_, _, _, _, _, rfl, _⟩ := h
    rfl
  · obtain ⟨F, C, e, k, fs, rfl, fh, he, kd, q⟩ := h
    refine ⟨_, ((pss_cons (ps_set (i := 1) sc_law_under.nd rfl (Or.inl rfl) (pe_lst (pa_cons (pe_callB (call_isV (K := K)) (by rfl) T.n_isinstance (by decide +kernel) (pa_cons (pv 0) (pa_cons (pe_glob (v := .ref _) rfl T.g_HeirsbackError rfl) pa_nil))) (pa_cons (pe_callB (call_isV (K := K)) (by rfl) T.n_isinstance (by decide +kernel) (pa_cons (pv 0) (pa_cons (pe_bltn (v := .ty "ValueError") (by rfl) T.n_ValueError (by decide +kernel) rfl) pa_nil))) (pa_cons (pe_callB (call_isV (K := K)) (by rfl) T.n_isinstance (by decide +kernel) (pa_cons (pv 0) (pa_cons (pe_bltn (v := .ty "LookupError") (by rfl) T.n_LookupError (by decide +kernel) rfl) pa_nil))) pa_nil)))))
 (pss_one (ps_ret (pe_op op_cat (pv 1) (pe_lst (pa_cons (pe_or (pe_callB (call_isV (K := K)) (by rfl) T.n_isinstance (by decide +kernel) (pa_cons (pv 0) (pa_cons (pe_bltn (v := .ty "KeyError") (by rfl) T.n_KeyError (by decide +kernel) rfl) pa_nil))) (pe_one (pe_callB (call_isV (K := K)) (by rfl) T.n_isinstance (by decide +kernel) (pa_cons (pv 0) (pa_cons (pe_bltn (v := .ty "IndexError") (by rfl) T.n_IndexError (by decide +kernel) rfl) pa_nil))))) pa_nil))))))), ?_⟩
    try simp only [cxK]
    have h1 := he.mono fh
    lcg_off
    refine rd_isV h1 kd.xc (.own _) kd.hb ?_
    lcg_off
    refine rd_isV h1 kd.xc (.ty _) kd.ve ?_
    lcg_off
    refine rd_isV h1 kd.xc (.ty _) kd.le ?_
    lcg_off
    refine newL fh fun F1 H1 p1 g1 _ e1 => ?_
    have h2 := (he.mono g1.ff).mono g1.fh
    lcg_off
    refine rd_isV h2 kd.xc (.ty _) kd.ke ?_
    lcg_off
    refine ifF rfl ?_
    lcg_off
    refine rd_isV h2 kd.xc (.ty _) kd.ie ?_
    lcg_off
    refine newL g1.fh fun F2 H2 p2 g2 _ e2 => ?_
    lcg_off
    refine new_cat g2.fh (g2.fh _ _ (g2.ff _ _ e1)) (g2.fh _ _ e2) (by simp) fun F3 H3 p3 g3 _ e3 => ?_
    exact q _ _ _ ((g1.trans g2).trans g3) e3
theorem tyX_lq {K : PySem.W.Frag} {H : Hp} {p : Addr} {xs : List V} (h : SqL K H p xs) : TyX K H (.ref p) (.type "list") := by
  rcases h with (e | ⟨o, e⟩) | ⟨o, _, _, e, c, _⟩
  · exact .base (.lst e)
  · exact .base (.frz e)
  · exact .kList e c
theorem tyX_tq {K : PySem.W.Frag} {H : Hp} {p : Addr} {xs : List V} (h : SqT K H p xs) : TyX K H (.ref p) (.type "tuple") := by
  rcases h with (e | ⟨o, e⟩) | ⟨o, _, _, e, c, _⟩
  · exact .base (.tup e)
  · exact .fTuple e
  · exact .kTuple e c
def sp_law_is (K : PySem.W.Frag) : Sp := fun vs H Q _ => ∃ (F : Hp) (v : V) (d : PyData), vs = [v, v] ∧ Same F H ∧ Dp K F v d ∧ SeqAt.shaped d = true ∧ Q (.bl true) H
theorem ok_law_is (T : Txt K mg a) : FnOk P w K mg base CX0 1 a.f_law_is a.fd_law_is ["_law_kept", "_law_given"]  (sp_law_is K) := by
  refine T.F_law_is.ok sc_law_is (fun vs H Q E h => ?_) (fun cdv A outer s H vs Q E hr h => ?_)
  · obtain ⟨_, _, _, rfl, _⟩ := h
    rfl
  · obtain ⟨F, v, d, rfl, fh, hv, hs, q⟩ := h
    refine ⟨_, ((pss_one (ps_ret (pe_and (pe_cmpR (op_eqD hr.units) (pv 0) (pv 1) (nomark _)) (pe_one (pe_cmpR op_eq (pe_callB call_isi (by rfl) T.n_isinstance (by decide +kernel) (pa_cons (pv 0) (pa_cons (pe_bltn (v := .ty "bool") (by rfl) T.n_bool (by decide +kernel) rfl) pa_nil))) (pe_callB call_isi (by rfl) T.n_isinstance (by decide +kernel) (pa_cons (pv 1) (pa_cons (pe_bltn (v := .ty "bool") (by rfl) T.n_bool (by decide +kernel) rfl) pa_nil))) (nomark _))))))), ?_⟩
    try simp only [cxK]
    lcg_off
    refine eq_dat hv hv fh hs ?_
    lcg_off
    refine ifT rfl ?_
    have hv' := hv.mono fh
    have isb : ∃ b : Bool, ∀ Q' : VK, Q' (.bl b) H → rIsi K [v, .ty "bool"] H Q' := by
      cases hv' with
      | non => exact ⟨false, fun Q' z => rd_isi_NoneType_bool z⟩
      | bl b => exact ⟨true, fun Q' z => rd_isi_bool_bool z⟩
      | int i => exact ⟨false, fun Q' z => rd_isi_int_bool z⟩
      | str x => exact ⟨false, fun Q' z => rd_isi_str_bool z⟩
      | lst hq ha => exact ⟨false, fun Q' z => rd_isi (.ty _) (tyX_lq hq) kit_list_bool z⟩
      | tup hq ha => exact ⟨false, fun Q' z => rd_isi (.ty _) (tyX_tq hq) kit_tuple_bool z⟩
    obtain ⟨b, hb⟩ := isb
    lcg_off
    refine hb _ ?_
    lcg_off
    refine hb _ ?_
    lcg_off
    rw [decide_eq_true rfl]
    exact q
def fNames : List Str := ["at", "field", "word", "maker", "name", "sign", "what"]
def sp_law_field (K : PySem.W.Frag) : Sp := fun vs H Q _ => ∃ (F : Hp) (C e : Addr) (f : Str) (v : V), vs = [.ref e, .str f] ∧ Same F H ∧ ErrAt F C e [(f, v)] ∧ XfC K C ∧ PySem.W.findIn K (.ref C) f = some none ∧ f ∈ fNames ∧ Q v H
theorem ok_law_field (T : Txt K mg a) : FnOk P w K mg base CX0 1 a.f_law_field a.fd_law_field ["_law_one", "_law_word"]  (sp_law_field K) := by
  refine T.F_law_field.ok sc_law_field (fun vs H Q E h => ?_) (fun cdv A outer s H vs Q E hr h => ?_)
  · obtain ⟨_, _, _, _, _, rfl, _⟩ := h
    rfl
  · obtain ⟨F, C, e, f, v, rfl, fh, he, xf, no, hf, q⟩ := h
    refine ⟨_, ((pss_cons (ps_if (pt_cmpR op_eq (pv 1) pe_str (nomark _))
 (pss_one (ps_ret (pe_xg (K := K) (pv 0))))
 pss_nil)
 (pss_cons (ps_if (pt_cmpR op_eq (pv 1) pe_str (nomark _))
 (pss_one (ps_ret (pe_xg (K := K) (pv 0))))
 pss_nil)
 (pss_cons (ps_if (pt_cmpR op_eq (pv 1) pe_str (nomark _))
 (pss_one (ps_ret (pe_xg (K := K) (pv 0))))
 pss_nil)
 (pss_cons (ps_if (pt_cmpR op_eq (pv 1) pe_str (nomark _))
 (pss_one (ps_ret (pe_xg (K := K) (pv 0))))
 pss_nil)
 (pss_cons (ps_if (pt_cmpR op_eq (pv 1) pe_str (nomark _))
 (pss_one (ps_ret (pe_xg (K := K) (pv 0))))
 pss_nil)
 (pss_one (ps_ret (pe_ifExp (pt_cmpR op_eq (pv 1) pe_str (nomark _)) (pe_xg (K := K) (pv 0)) (pe_xg (K := K) (pv 0))))))))))), ?_⟩
    try simp only [cxK]
    have he' := he.mono fh
    unfold fNames at hf
    simp only [List.mem_cons, List.not_mem_nil, or_false] at hf
    rcases hf with rfl | rfl | rfl | rfl | rfl | rfl | rfl
    all_goals
      lcg_off
      repeat (first | (refine ifT (by decide +kernel) ?_; lcg_off) | (refine ifF (by decide +kernel) ?_; lcg_off))
      exact rd_xgK he' xf no (by simp [List.lookup]) q
/-- a row of the first list: the error, the name of its field, what it is -/
def RowE (K : PySem.W.Frag) (a : Ad) (F : Hp) (k : Nat) (r : Addr) : Prop := ∃ (C e : Addr) (f : Str) (v : V) (d : PyData), (Cs a)[k]? = some C ∧ F r = some (.tup [.ref e, .str f, v]) ∧ ErrAt F C e [(f, v)] ∧ PySem.W.findIn K (.ref C) f = some none ∧ f ∈ fNames ∧ Dp K F v d ∧ SeqAt.shaped d = true
def maxI (n : Int) : Int := if n > 0 then n else 0
def LastE (a : Ad) (F : Hp) (n : Int) (o t : List Nat) (es : List Addr) : Prop := ∃ e0 e1 e2 e3, es = [e0, e1, e2, e3] ∧ ErrAt F a.C_Surplus e0 [("many", .int (maxI n)), ("name", .str (tx ([65] ++ o)))] ∧ ErrAt F a.C_Lacking e1 [("field", .str (tx t)), ("name", .str (tx ([65] ++ o)))] ∧ ErrAt F a.C_Unknown e2 [("field", .str (tx t)), ("name", .str (tx ([65] ++ o)))] ∧ ErrAt F a.C_Failed e3 [("reason", .str (tx t)), ("at", .int (maxI n))]
def sp_law_errors (K : PySem.W.Frag) (a : Ad) : Sp := fun vs H Q _ => ∃ (F : Hp) (v : V) (d : PyData) (n : Int) (o t : List Nat), vs = [v, .int n, .str (tx o), .str (tx t)] ∧ Same F H ∧ Dp K F v d ∧ SeqAt.shaped d = true ∧ o.length ≤ 8 ∧ t.length ≤ 8 ∧ okT o ∧ okT t ∧
  ∀ (F' H' : Hp) (p l1 l2 : Addr) (rs es : List Addr), Grow [] F H F' H' → F' p = some (.tup [.ref l1, .ref l2]) → F' l1 = some (.lst (rs.map V.ref)) → F' l2 = some (.lst (es.map V.ref)) → rs.length = 11 → (∀ k r, rs[k]? = some r → RowE K a F' k r) → LastE a F' n o t es → Q (.ref p) H'
theorem str_shaped {l : List Nat} (h : okT l) : SeqAt.shaped (.str (tx l)) = true := by
  unfold SeqAt.shaped
  rw [Bool.and_eq_true]
  refine ⟨?_, by rfl⟩
  simp only [PyData.canLay0]
  exact okT_str h
theorem ok_law_errors (T : Txt K mg a) : FnOk P w K mg base CX0 3 a.f_law_errors a.fd_law_errors ["_law_thing_here", "_law_number", "_law_one", "_law_two"]  (sp_law_errors K a) := by
  refine T.F_law_errors.ok sc_law_errors (fun vs H Q E h => ?_) (fun cdv A outer s H vs Q E hr h => ?_)
  · obtain ⟨_, _, _, _, _, _, rfl, _⟩ := h
    rfl
  · obtain ⟨F, v, d, n, o, t, rfl, fh, hv, hs, ho, ht, oko, okt, q⟩ := h
    refine ⟨_, ((pss_cons (ps_set (i := 4) sc_law_errors.nd rfl (Or.inl rfl) (pe_lst (pa_cons (pe_tup (pa_cons (pe_xmk T.ox_BadLibrary T.m_BadLibrary_init.at_ T.xt_BadLibrary (ok_BadLibrary_init T) hr T.b_BadLibrary_init pass0 rfl T.g_BadLibrary (pa_cons (pv 1) pa_nil)) (pa_cons pe_str (pa_cons (pv 1) pa_nil)))) (pa_cons (pe_tup (pa_cons (pe_xmk T.ox_BadWorld T.m_BadWorld_init.at_ T.xt_BadWorld (ok_BadWorld_init T) hr T.b_BadWorld_init pass0 rfl T.g_BadWorld (pa_cons (pv 1) pa_nil)) (pa_cons pe_str (pa_cons (pv 1) pa_nil)))) (pa_cons (pe_tup (pa_cons (pe_xmk T.ox_BadValue T.m_BadValue_init.at_ T.xt_BadValue (ok_BadValue_init T) hr T.b_BadValue_init pass0 rfl T.g_BadValue (pa_cons (pv 2) pa_nil)) (pa_cons pe_str (pa_cons (pv 2) pa_nil)))) pa_nil)))))
 (pss_cons (ps_set (i := 4) sc_law_errors.nd rfl (Or.inl rfl) (pe_op op_cat (pv 4) (pe_lst (pa_cons (pe_tup (pa_cons (pe_xmk T.ox_BadExpression T.m_BadExpression_init.at_ T.xt_BadExpression (ok_BadExpression_init T) hr T.b_BadExpression_init pass0 rfl T.g_BadExpression (pa_cons (pv 1) pa_nil)) (pa_cons pe_str (pa_cons (pv 1) pa_nil)))) (pa_cons (pe_tup (pa_cons (pe_xmk T.ox_BadFamily T.m_BadFamily_init.at_ T.xt_BadFamily (ok_BadFamily_init T) hr T.b_BadFamily_init pass0 rfl T.g_BadFamily (pa_cons (pv 0) pa_nil)) (pa_cons pe_str (pa_cons (pv 0) pa_nil)))) pa_nil)))))
 (pss_cons (ps_set (i := 4) sc_law_errors.nd rfl (Or.inl rfl) (pe_op op_cat (pv 4) (pe_lst (pa_cons (pe_tup (pa_cons (pe_xmk T.ox_BadVirtue T.m_BadVirtue_init.at_ T.xt_BadVirtue (ok_BadVirtue_init T) hr T.b_BadVirtue_init pass0 rfl T.g_BadVirtue (pa_cons (pv 0) pa_nil)) (pa_cons pe_str (pa_cons (pv 0) pa_nil)))) (pa_cons (pe_tup (pa_cons (pe_xmk T.ox_BadMaker T.m_BadMaker_init.at_ T.xt_BadMaker (ok_BadMaker_init T) hr T.b_BadMaker_init pass0 rfl T.g_BadMaker (pa_cons (pv 0) pa_nil)) (pa_cons pe_str (pa_cons (pv 0) pa_nil)))) pa_nil)))))
 (pss_cons (ps_set (i := 4) sc_law_errors.nd rfl (Or.inl rfl) (pe_op op_cat (pv 4) (pe_lst (pa_cons (pe_tup (pa_cons (pe_xmk T.ox_NoClass T.m_NoClass_init.at_ T.xt_NoClass (ok_NoClass_init T) hr T.b_NoClass_init pass0 rfl T.g_NoClass (pa_cons (pv 0) pa_nil)) (pa_cons pe_str (pa_cons (pv 0) pa_nil)))) (pa_cons (pe_tup (pa_cons (pe_xmk T.ox_NoSign T.m_NoSign_init.at_ T.xt_NoSign (ok_NoSign_init T) hr T.b_NoSign_init pass0 rfl T.g_NoSign (pa_cons (pv 0) pa_nil)) (pa_cons pe_str (pa_cons (pv 0) pa_nil)))) (pa_cons (pe_tup (pa_cons (pe_xmk T.ox_TooMany T.m_TooMany_init.at_ T.xt_TooMany (ok_TooMany_init T) hr T.b_TooMany_init pass0 rfl T.g_TooMany (pa_cons (pv 3) pa_nil)) (pa_cons pe_str (pa_cons (pv 3) pa_nil)))) pa_nil))))))
 (pss_cons (ps_set (i := 5) sc_law_errors.nd rfl (Or.inl rfl) (pe_lst (pa_cons (pe_xmk T.ox_Surplus T.m_Surplus_init.at_ T.xt_Surplus (ok_Surplus_init T) hr T.b_Surplus_init pass0 rfl T.g_Surplus (pa_cons (pe_op op_addStr pe_str (pv 2)) (pa_cons (pe_callB (call_maxI rfl) (by rfl) T.n_max (by decide +kernel) (pa_cons pe_int (pa_cons (pv 1) pa_nil))) pa_nil))) (pa_cons (pe_xmk T.ox_Lacking T.m_Lacking_init.at_ T.xt_Lacking (ok_Lacking_init T) hr T.b_Lacking_init pass0 rfl T.g_Lacking (pa_cons (pe_op op_addStr pe_str (pv 2)) (pa_cons (pv 3) pa_nil))) (pa_cons (pe_xmk T.ox_Unknown T.m_Unknown_init.at_ T.xt_Unknown (ok_Unknown_init T) hr T.b_Unknown_init pass0 rfl T.g_Unknown (pa_cons (pe_op op_addStr pe_str (pv 2)) (pa_cons (pv 3) pa_nil))) pa_nil)))))
 (pss_one (ps_ret (pe_tup (pa_cons (pe_op op_cat (pv 4) (pe_lst (pa_cons (pe_tup (pa_cons (pe_xmk T.ox_Unlike T.m_Unlike_init.at_ T.xt_Unlike (ok_Unlike_init T) hr T.b_Unlike_init pass0 rfl T.g_Unlike (pa_cons (pv 1) pa_nil)) (pa_cons pe_str (pa_cons (pv 1) pa_nil)))) pa_nil))) (pa_cons (pe_op op_cat (pv 5) (pe_lst (pa_cons (pe_xmk T.ox_Failed T.m_Failed_init.at_ T.xt_Failed (ok_Failed_init T) hr T.b_Failed_init pass0 rfl T.g_Failed (pa_cons (pe_callB (call_maxI rfl) (by rfl) T.n_max (by decide +kernel) (pa_cons pe_int (pa_cons (pv 1) pa_nil))) (pa_cons (pv 3) pa_nil))) pa_nil))) pa_nil))))))))))), ?_⟩
    try simp only [cxK, A_tx]
    lcg_off
    refine mk_xe1 fh fun F1 H1 er0 g1 _ er0e => ?_
    lcg_off
    refine newT g1.fh fun F2 H2 rw0 g2 _ rw0e => ?_
    lcg_off
    refine mk_xe1 g2.fh fun F3 H3 er1 g3 _ er1e => ?_
    lcg_off
    refine newT g3.fh fun F4 H4 rw1 g4 _ rw1e => ?_
    lcg_off
    refine mk_xe1 g4.fh fun F5 H5 er2 g5 _ er2e => ?_
    lcg_off
    refine newT g5.fh fun F6 H6 rw2 g6 _ rw2e => ?_
    lcg_off
    refine newL g6.fh fun F7 H7 ls0 g7 _ ls0e => ?_
    lcg_off
    refine mk_xe1 g7.fh fun F8 H8 er3 g8 _ er3e => ?_
    lcg_off
    refine newT g8.fh fun F9 H9 rw3 g9 _ rw3e => ?_
    lcg_off
    refine mk_xe1 g9.fh fun F10 H10 er4 g10 _ er4e => ?_
    lcg_off
    refine newT g10.fh fun F11 H11 rw4 g11 _ rw4e => ?_
    lcg_off
    refine newL g11.fh fun F12 H12 ls1 g12 _ ls1e => ?_
    lcg_off
    refine new_cat g12.fh (g12.fh _ _ (g12.ff _ _ (g11.ff _ _ (g10.ff _ _ (g9.ff _ _ (g8.ff _ _ ls0e)))))) (g12.fh _ _ ls1e) (by simp) fun F13 H13 ca1 g13 _ ca1e => ?_
    lcg_off
    refine mk_xe1 g13.fh fun F14 H14 er5 g14 _ er5e => ?_
    lcg_off
    refine newT g14.fh fun F15 H15 rw5 g15 _ rw5e => ?_
    lcg_off
    refine mk_xe1 g15.fh fun F16 H16 er6 g16 _ er6e => ?_
    lcg_off
    refine newT g16.fh fun F17 H17 rw6 g17 _ rw6e => ?_
    lcg_off
    refine newL g17.fh fun F18 H18 ls2 g18 _ ls2e => ?_
    lcg_off
    refine new_cat g18.fh (g18.fh _ _ (g18.ff _ _ (g17.ff _ _ (g16.ff _ _ (g15.ff _ _ (g14.ff _ _ ca1e)))))) (g18.fh _ _ ls2e) (by simp) fun F19 H19 ca2 g19 _ ca2e => ?_
    lcg_off
    refine mk_xe1 g19.fh fun F20 H20 er7 g20 _ er7e => ?_
    lcg_off
    refine newT g20.fh fun F21 H21 rw7 g21 _ rw7e => ?_
    lcg_off
    refine mk_xe1 g21.fh fun F22 H22 er8 g22 _ er8e => ?_
    lcg_off
    refine newT g22.fh fun F23 H23 rw8 g23 _ rw8e => ?_
    lcg_off
    refine mk_xe1 g23.fh fun F24 H24 er9 g24 _ er9e => ?_
    lcg_off
    refine newT g24.fh fun F25 H25 rw9 g25 _ rw9e => ?_
    lcg_off
    refine newL g25.fh fun F26 H26 ls3 g26 _ ls3e => ?_
    lcg_off
    refine new_cat g26.fh (g26.fh _ _ (g26.ff _ _ (g25.ff _ _ (g24.ff _ _ (g23.ff _ _ (g22.ff _ _ (g21.ff _ _ (g20.ff _ _ ca2e)))))))) (g26.fh _ _ ls3e) (by simp) fun F27 H27 ca3 g27 _ ca3e => ?_
    lcg_off
    refine mk_xe2 g27.fh fun F28 H28 er11 g28 _ er11e => ?_
    lcg_off
    refine mk_xe2 g28.fh fun F29 H29 er12 g29 _ er12e => ?_
    lcg_off
    refine mk_xe2 g29.fh fun F30 H30 er13 g30 _ er13e => ?_
    lcg_off
    refine newL g30.fh fun F31 H31 lt0 g31 _ lt0e => ?_
    lcg_off
    refine mk_xe1 g31.fh fun F32 H32 er10 g32 _ er10e => ?_
    lcg_off
    refine newT g32.fh fun F33 H33 rw10 g33 _ rw10e => ?_
    lcg_off
    refine newL g33.fh fun F34 H34 ls4 g34 _ ls4e => ?_
    lcg_off
    refine new_cat g34.fh (g34.fh _ _ (g34.ff _ _ (g33.ff _ _ (g32.ff _ _ (g31.ff _ _ (g30.ff _ _ (g29.ff _ _ (g28.ff _ _ ca3e)))))))) (g34.fh _ _ ls4e) (by simp) fun F35 H35 ca4 g35 _ ca4e => ?_
    lcg_off
    refine mk_xe2 g35.fh fun F36 H36 er14 g36 _ er14e => ?_
    lcg_off
    refine newL g36.fh fun F37 H37 lt1 g37 _ lt1e => ?_
    lcg_off
    refine new_cat g37.fh (g37.fh _ _ (g37.ff _ _ (g36.ff _ _ (g35.ff _ _ (g34.ff _ _ (g33.ff _ _ (g32.ff _ _ lt0e))))))) (g37.fh _ _ lt1e) (by simp) fun F38 H38 ca5 g38 _ ca5e => ?_
    lcg_off
    refine newT g38.fh fun F39 H39 tp g39 _ tpe => ?_
    have s39 : Same F39 F39 := Same.refl _
    have s38 : Same F38 F39 := g39.ff.trans s39
    have s37 : Same F37 F39 := g38.ff.trans s38
    have s36 : Same F36 F39 := g37.ff.trans s37
    have s35 : Same F35 F39 := g36.ff.trans s36
    have s34 : Same F34 F39 := g35.ff.trans s35
    have s33 : Same F33 F39 := g34.ff.trans s34
    have s32 : Same F32 F39 := g33.ff.trans s33
    have s31 : Same F31 F39 := g32.ff.trans s32
    have s30 : Same F30 F39 := g31.ff.trans s31
    have s29 : Same F29 F39 := g30.ff.trans s30
    have s28 : Same F28 F39 := g29.ff.trans s29
    have s27 : Same F27 F39 := g28.ff.trans s28
    have s26 : Same F26 F39 := g27.ff.trans s27
    have s25 : Same F25 F39 := g26.ff.trans s26
    have s24 : Same F24 F39 := g25.ff.trans s25
    have s23 : Same F23 F39 := g24.ff.trans s24
    have s22 : Same F22 F39 := g23.ff.trans s23
    have s21 : Same F21 F39 := g22.ff.trans s22
    have s20 : Same F20 F39 := g21.ff.trans s21
    have s19 : Same F19 F39 := g20.ff.trans s20
    have s18 : Same F18 F39 := g19.ff.trans s19
    have s17 : Same F17 F39 := g18.ff.trans s18
    have s16 : Same F16 F39 := g17.ff.trans s17
    have s15 : Same F15 F39 := g16.ff.trans s16
    have s14 : Same F14 F39 := g15.ff.trans s15
    have s13 : Same F13 F39 := g14.ff.trans s14
    have s12 : Same F12 F39 := g13.ff.trans s13
    have s11 : Same F11 F39 := g12.ff.trans s12
    have s10 : Same F10 F39 := g11.ff.trans s11
    have s9 : Same F9 F39 := g10.ff.trans s10
    have s8 : Same F8 F39 := g9.ff.trans s9
    have s7 : Same F7 F39 := g8.ff.trans s8
    have s6 : Same F6 F39 := g7.ff.trans s7
    have s5 : Same F5 F39 := g6.ff.trans s6
    have s4 : Same F4 F39 := g5.ff.trans s5
    have s3 : Same F3 F39 := g4.ff.trans s4
    have s2 : Same F2 F39 := g3.ff.trans s3
    have s1 : Same F1 F39 := g2.ff.trans s2
    have s0 : Same F F39 := g1.ff.trans s1
    have k1 := g1
    have k2 := k1.trans g2
    have k3 := k2.trans g3
    have k4 := k3.trans g4
    have k5 := k4.trans g5
    have k6 := k5.trans g6
    have k7 := k6.trans g7
    have k8 := k7.trans g8
    have k9 := k8.trans g9
    have k10 := k9.trans g10
    have k11 := k10.trans g11
    have k12 := k11.trans g12
    have k13 := k12.trans g13
    have k14 := k13.trans g14
    have k15 := k14.trans g15
    have k16 := k15.trans g16
    have k17 := k16.trans g17
    have k18 := k17.trans g18
    have k19 := k18.trans g19
    have k20 := k19.trans g20
    have k21 := k20.trans g21
    have k22 := k21.trans g22
    have k23 := k22.trans g23
    have k24 := k23.trans g24
    have k25 := k24.trans g25
    have k26 := k25.trans g26
    have k27 := k26.trans g27
    have k28 := k27.trans g28
    have k29 := k28.trans g29
    have k30 := k29.trans g30
    have k31 := k30.trans g31
    have k32 := k31.trans g32
    have k33 := k32.trans g33
    have k34 := k33.trans g34
    have k35 := k34.trans g35
    have k36 := k35.trans g36
    have k37 := k36.trans g37
    have k38 := k37.trans g38
    have k39 := k38.trans g39
    refine q F39 H39 tp ca4 ca5 [rw0, rw1, rw2, rw3, rw4, rw5, rw6, rw7, rw8, rw9, rw10] [er11, er12, er13, er14] k39 (s39 _ _ tpe) (s35 _ _ ca4e) (s38 _ _ ca5e) rfl ?_ ⟨_, _, _, _, rfl, (er11e.mono s28), (er12e.mono s29), (er13e.mono s30), (er14e.mono s36)⟩
    intro k r hk
    match k, hk with
    | 0, hk => cases hk; exact ⟨_, _, _, _, .int n, rfl, (s2 _ _ rw0e), (er0e.mono s1), T.no_BadLibrary_at, by decide +kernel, .int _, (by rfl)⟩
    | 1, hk => cases hk; exact ⟨_, _, _, _, .int n, rfl, (s4 _ _ rw1e), (er1e.mono s3), T.no_BadWorld_at, by decide +kernel, .int _, (by rfl)⟩
    | 2, hk => cases hk; exact ⟨_, _, _, _, .str _, rfl, (s6 _ _ rw2e), (er2e.mono s5), T.no_BadValue_field, by decide +kernel, .str _, (str_shaped oko)⟩
    | 3, hk => cases hk; exact ⟨_, _, _, _, .int n, rfl, (s9 _ _ rw3e), (er3e.mono s8), T.no_BadExpression_at, by decide +kernel, .int _, (by rfl)⟩
    | 4, hk => cases hk; exact ⟨_, _, _, _, d, rfl, (s11 _ _ rw4e), (er4e.mono s10), T.no_BadFamily_word, by decide +kernel, (hv.mono s0), hs⟩
    | 5, hk => cases hk; exact ⟨_, _, _, _, d, rfl, (s15 _ _ rw5e), (er5e.mono s14), T.no_BadVirtue_word, by decide +kernel, (hv.mono s0), hs⟩
    | 6, hk => cases hk; exact ⟨_, _, _, _, d, rfl, (s17 _ _ rw6e), (er6e.mono s16), T.no_BadMaker_maker, by decide +kernel, (hv.mono s0), hs⟩
    | 7, hk => cases hk; exact ⟨_, _, _, _, d, rfl, (s21 _ _ rw7e), (er7e.mono s20), T.no_NoClass_name, by decide +kernel, (hv.mono s0), hs⟩
    | 8, hk => cases hk; exact ⟨_, _, _, _, d, rfl, (s23 _ _ rw8e), (er8e.mono s22), T.no_NoSign_sign, by decide +kernel, (hv.mono s0), hs⟩
    | 9, hk => cases hk; exact ⟨_, _, _, _, .str _, rfl, (s25 _ _ rw9e), (er9e.mono s24), T.no_TooMany_what, by decide +kernel, .str _, (str_shaped okt)⟩
    | 10, hk => cases hk; exact ⟨_, _, _, _, .int n, rfl, (s33 _ _ rw10e), (er10e.mono s32), T.no_Unlike_at, by decide +kernel, .int _, (by rfl)⟩
    | k + 11, hk => exact absurd hk (by simp)
def sp_law_last_right (K : PySem.W.Frag) (a : Ad) : Sp := fun vs H Q _ => ∃ (F : Hp) (l : Addr) (es : List Addr) (n : Int) (o t : List Nat), vs = [.ref l, .int n, .str (tx o), .str (tx t)] ∧ Same F H ∧ F l = some (.lst (es.map V.ref)) ∧ LastE a F n o t es ∧ o.length ≤ 8 ∧ Q (.bl true) H
theorem ok_law_last_right (T : Txt K mg a) : FnOk P w K mg base CX0 1 a.f_law_last_right a.fd_law_last_right ["_law_last", "_law_number", "_law_one", "_law_two"]  (sp_law_last_right K a) := by
  refine T.F_law_last_right.ok sc_law_last_right (fun vs H Q E h => ?_) (fun cdv A outer s H vs Q E hr h => ?_)
  · obtain ⟨_, _, _, _, _, _, rfl, _⟩ := h
    rfl
  · obtain ⟨F, l, es, n, o, t, rfl, fh, hl, ⟨e0, e1, e2, e3, rfl, h0, h1, h2, h3⟩, ho, q⟩ := h
    refine ⟨_, ((pss_cons (ps_if (PW.pt (pw_or (pt_cmpR op_ne (pe_xg (K := K) (pe_ix ix_list (pv 0) pe_int (fun _ _ => rfl))) (pe_op op_addStr pe_str (pv 2)) (nomark _)) (pw_or (pt_cmpR op_ne (pe_xg (K := K) (pe_ix ix_list (pv 0) pe_int (fun _ _ => rfl))) (pe_callB (call_maxI rfl) (by rfl) T.n_max (by decide +kernel) (pa_cons pe_int (pa_cons (pv 1) pa_nil))) (nomark _)) (pw_or1 (pt_cmpR op_ne (pe_xg (K := K) (pe_ix ix_list (pv 0) pe_int (fun _ _ => rfl))) (pe_op op_addStr pe_str (pv 2)) (nomark _))))))
 (pss_one (ps_ret pe_bl))
 pss_nil)
 (pss_cons (ps_if (PW.pt (pw_or (pt_cmpR op_ne (pe_xg (K := K) (pe_ix ix_list (pv 0) pe_int (fun _ _ => rfl))) (pv 3) (nomark _)) (pw_or (pt_cmpR op_ne (pe_xg (K := K) (pe_ix ix_list (pv 0) pe_int (fun _ _ => rfl))) (pe_op op_addStr pe_str (pv 2)) (nomark _)) (pw_or1 (pt_cmpR op_ne (pe_xg (K := K) (pe_ix ix_list (pv 0) pe_int (fun _ _ => rfl))) (pv 3) (nomark _))))))
 (pss_one (ps_ret pe_bl))
 pss_nil)
 (pss_one (ps_ret (pe_and (pe_cmpR op_eq (pe_xg (K := K) (pe_ix ix_list (pv 0) pe_int (fun _ _ => rfl))) (pe_callB (call_maxI rfl) (by rfl) T.n_max (by decide +kernel) (pa_cons pe_int (pa_cons (pv 1) pa_nil))) (nomark _)) (pe_one (pe_cmpR op_eq (pe_xg (K := K) (pe_ix ix_list (pv 0) pe_int (fun _ _ => rfl))) (pv 3) (nomark _))))))))), ?_⟩
    try simp only [cxK, A_tx]
    have hlH := fh _ _ hl
    have k0 := h0.mono fh
    have k1 := h1.mono fh
    have k2 := h2.mono fh
    have k3 := h3.mono fh
    have lk : ∀ {f g : Str} {u v : V}, (g == f) = false → [(f, u), (g, v)].lookup g = some v := fun {f g u v} h => by rw [List.lookup_cons, h, List.lookup_cons_self]
    lcg_off
    refine rd_xgK k0 T.xf_Surplus T.no_Surplus_name (lk (by decide +kernel)) ?_
    lcg_off
    refine ifF (by simp) ?_
    lcg_off
    refine rd_xgK k0 T.xf_Surplus T.no_Surplus_many List.lookup_cons_self ?_
    lcg_off
    refine ifF (by show (!decide (V.int (maxI n) = V.int (maxI n))) = false; simp) ?_
    lcg_off
    refine rd_xgK k1 T.xf_Lacking T.no_Lacking_name (lk (by decide +kernel)) ?_
    lcg_off
    refine ifF (by simp) ?_
    lcg_off
    lcg_off
    refine rd_xgK k1 T.xf_Lacking T.no_Lacking_field List.lookup_cons_self ?_
    lcg_off
    refine ifF (by simp) ?_
    lcg_off
    refine rd_xgK k2 T.xf_Unknown T.no_Unknown_name (lk (by decide +kernel)) ?_
    lcg_off
    refine ifF (by simp) ?_
    lcg_off
    refine rd_xgK k2 T.xf_Unknown T.no_Unknown_field List.lookup_cons_self ?_
    lcg_off
    refine ifF (by simp) ?_
    lcg_off
    refine rd_xgK k3 T.xf_Failed T.no_Failed_at (lk (by decide +kernel)) ?_
    lcg_off
    refine ifT (by show decide (V.int (maxI n) = V.int (maxI n)) = true; simp) ?_
    lcg_off
    refine rd_xgK k3 T.xf_Failed T.no_Failed_reason List.lookup_cons_self ?_
    lcg_off
    rw [decide_eq_true rfl]
    exact q
end
end Er

namespace Er
open PySem L2 Hk
theorem cutS_to (l : List Nat) (n : Nat) : cutS (tx l) none (some (n : Int)) = tx (l.take n) := by
  unfold cutS
  rw [tx_len, HT.sIx_none, HT.sIx_nat, Nat.sub_zero]
  have e : ((tx l).cps.toList.drop 0).take (min n l.length) = l.take n := by
    show (l.drop 0).take (min n l.length) = l.take n
    rw [List.drop_zero]
    exact (List.take_eq_take_min ..).symm
  rw [e]
  rfl
theorem ofSame' {F H H' : Hp} (fh : Same F H) (s : Same H H') : Grow [] F H F H' := ⟨Same.refl _, fh.trans s, fun c o _ e => s c o e, fun c a b => ⟨a, same_nn s b⟩⟩
theorem bl_dp {K : PySem.W.Frag} {F : Hp} : ∀ bs : List Bool, DpAll K F (bs.map V.bl) (bs.map PyData.bool)
  | [] => .nil
  | b :: bs => .cons (.bl b) (bl_dp bs)
theorem bits_sh : ∀ k : Fin 15, SeqAt.shaped (.list ((bits k).map PyData.bool)) = true := by decide +kernel
theorem bits_sh' {k : Nat} (h : k < 15) : SeqAt.shaped (.list ((bits k).map PyData.bool)) = true := bits_sh ⟨k, h⟩
theorem bits_of {k : Nat} {z : Int} (hz : z = (k : Int)) : ((List.range 15).filter (fun _ => true)).map (fun j : Nat => V.bl (decide (V.int z = V.int (j : Int)))) = (bits k).map V.bl := by
  subst hz
  rw [List.filter_eq_self.mpr fun _ _ => rfl]
  unfold bits
  rw [List.map_map]
  refine List.map_congr_left fun j _ => ?_
  show V.bl _ = V.bl _
  congr 1
  refine decide_eq_decide.mpr ⟨fun h => ?_, fun h => by rw [h]⟩
  have := V.int.inj h
  omega
local macro_rules | `(tactic| array_mem_dec) => `(tactic| with_reducible first
  | assumption | exact upd_same
  | (apply upd_new; assumption; array_mem_dec)
  | (apply upd_old; tlg_ne; array_mem_dec)
  | (apply same_at; assumption; array_mem_dec))
local macro_rules | `(tactic| tlg_ne) => `(tactic| with_reducible first
  | assumption | (apply Ne.symm; assumption)
  | (apply ne_new; assumption; array_mem_dec) | (apply ne_new'; assumption; array_mem_dec)
  | (apply ne_of; assumption; assumption; (with_unfolding_all (intro z; cases z; done))))
local macro_rules | `(tactic| decreasing_trivial_pre_omega) => `(tactic| with_reducible first
  | assumption | (apply sqL_of; array_mem_dec) | (apply sqT_of; array_mem_dec)
  | (apply Same.seq; assumption; decreasing_trivial_pre_omega) | (apply sqT_same; assumption; decreasing_trivial_pre_omega)
  | (apply sqL_new; assumption; decreasing_trivial_pre_omega) | (apply sqL_upd; tlg_ne; decreasing_trivial_pre_omega))
local macro_rules | `(tactic| kpt_turns) => `(tactic| with_reducible first
  | assumption | exact Same.refl _ | (apply same_ext; kpt_turns; assumption) | (apply same_mut; kpt_turns; keq_hits) | (apply same_step; assumption; kpt_turns))
local macro_rules | `(tactic| keq_hits) => `(tactic| with_reducible first | assumption | (apply same_none; assumption; keq_hits))
local macro_rules | `(tactic| sizeOf_list_dec) => `(tactic| first | (with_reducible assumption) | (with_reducible_and_instances omega) | (with_unfolding_all decide))
local macro_rules | `(tactic| array_get_dec) => `(tactic| first | (with_reducible assumption) | (apply sz_of; (with_unfolding_all simp); done) | (apply sz_of; omega) | (apply sz_lt; (with_unfolding_all simp); done) | (apply sz_lt; omega))
local macro_rules | `(tactic| keq_rows) => `(tactic| with_reducible first
  | apply rd_asgN | apply rd_seq | apply rd_parA | apply rd_par3A | apply rd_par2 | apply rd_par3 | apply rd_m1 | apply rd_isStr | apply rd_cval | apply rd_asg | apply rd_gname | apply rd_op | (show tVar _ _ _ _; refine rd_var (by with_unfolding_all rfl) ?_) | apply rd_c | apply rd_I0
  | apply rd_cons | apply rd_nil | apply rd_cb | apply rd_test | apply rd_bl | apply rd_fld | apply rd_drop | apply rd_ret | apply rd_retN | apply rd_next
  | apply rd_ifS | apply rd_un | apply rd_B | apply rd_and | apply rd_or | apply rd_not | apply rd_andV | apply rd_orV | apply rd_notV | apply rd_if
  | apply rd_int | apply rd_abs | apply rd_max | apply rd_min | apply rd_strS | apply rd_U
  | apply rd_eqTx | apply rd_neTx | apply rd_inTx | apply rd_notInTx | apply rd_fmt | (show FmtK (.str (tx _)) _ _; refine rd_fmtT (by omega) ?_) | apply rd_jsC | apply rd_jsN | (show JsK _ (tx _) _ (.str (tx _)) _ _; refine rd_JsK (by first | omega | (simp; done) | (simp; omega)) ?_) | (show rAddStr (.str (tx _)) (.str (tx _)) _ _; refine rd_addT (by first | omega | (simp; done) | (simp; omega)) ?_) | (show rLenStr [.str (tx _)] _ _; refine rd_lenTx (by omega) ?_)
  | (show rEq _ _ _ _; refine rd_eq (by with_unfolding_all rfl) ?_) | (show rNe _ _ _ _; refine rd_ne (by with_unfolding_all rfl) ?_) | apply rd_isNone | apply rd_notNone
  | (show rIxL _ _ _ _ _; refine rd_ixL (by decreasing_trivial_pre_omega) (by with_unfolding_all rfl) ?_) | (show rIxT _ _ _ _ _; refine rd_ixT (by decreasing_trivial_pre_omega) (by with_unfolding_all rfl) ?_)
  | (show rLenSeq _ _ _ _; refine rd_lenL (by decreasing_trivial_pre_omega) ?_) | (show rLenSeq _ _ _ _; refine rd_lenT (by decreasing_trivial_pre_omega) ?_)
  | (show rI _ _ _ _ _ _; refine rd_mod (by sizeOf_list_dec) ?_) | (show rI _ _ _ _ _ _; refine rd_div (by sizeOf_list_dec) (by sizeOf_list_dec) ?_) | (show rI _ _ _ _ _ _; refine rd_mulR (by sizeOf_list_dec) (by sizeOf_list_dec) ?_) | (show rI _ _ _ _ _ _; refine rd_mulL (by sizeOf_list_dec) (by sizeOf_list_dec) ?_) | (show rI _ _ _ _ _ _; refine rd_pow (by sizeOf_list_dec) ?_)
  | (show rSetL _ _ _ _ _; refine rd_setL (by array_mem_dec) (by with_unfolding_all rfl) ?_)
  | apply rd_inSign | apply rd_notInSign | apply rd_tupK | apply rd_lstK | apply rd_sl | apply rd_noPart | apply rd_part | apply rd_isInt
  | apply rd_gsub | apply rd_gcons | apply rd_gnil | apply rd_call | apply rd_meth | apply rd_make | apply rd_smeth | apply rd_isC | apply rd_smethK | apply rd_cmeth | apply rd_cmethK
  | apply rd_bm | apply rd_bm0 | (show BmK _ _ _ _ _ _ _ _; refine rd_bmL (by array_mem_dec) ?_) | (show Bm0K _ _ _ _ _ _; refine rd_bm0L (by array_mem_dec) ?_) | apply rd_sfld | apply rd_aug | apply rd_rAdd | apply rd_brk | apply rd_cont
  | apply rd_for | apply rd_iList | (show IList _ _ _ _; refine rd_IList (by decreasing_trivial_pre_omega) ?_) | apply rd_iTup | (show ITup _ _ _ _; refine rd_ITup (by decreasing_trivial_pre_omega) ?_) | apply rd_iEnum | (show IEnum _ _ _ _; refine rd_IEnum (by decreasing_trivial_pre_omega) ?_) | apply rd_iRng1 | (show IRng1 _ _ _; refine rd_IRng1 (by sizeOf_list_dec) (by sizeOf_list_dec) ?_)
  | (show rLenStr _ _ _; refine rd_lenS (by array_get_dec) ?_) | (show rAddStr _ _ _ _; refine rd_addS (by array_get_dec) ?_) | (show rSlS _ _ _ _ _; refine rd_slS (by array_get_dec) ?_) | apply rd_lc | apply rd_yes | (show gTup _ _ _ _ _ _ _; refine rd_gtup (by decreasing_trivial_pre_omega) (by with_unfolding_all rfl) ?_) | (show tMakeL _ _ _ _ _ _ _ _; refine rd_makeL (by with_unfolding_all rfl) ?_))
local macro_rules | `(tactic| kas_types) => `(tactic| with_reducible first | apply rd_isi_int_int | apply rd_isi_int_bool | apply rd_isi_int_str | apply rd_isi_int_list | apply rd_isi_int_tuple | apply rd_isi_bool_int | apply rd_isi_bool_bool | apply rd_isi_bool_str | apply rd_isi_bool_list | apply rd_isi_bool_tuple | apply rd_isi_str_int | apply rd_isi_str_bool | apply rd_isi_str_str | apply rd_isi_str_list | apply rd_isi_str_tuple | (show rIsi _ _ _ _; refine rd_isi_list_int (by array_mem_dec) ?_) | (show rIsi _ _ _ _; refine rd_isi_list_bool (by array_mem_dec) ?_) | (show rIsi _ _ _ _; refine rd_isi_list_str (by array_mem_dec) ?_) | (show rIsi _ _ _ _; refine rd_isi_list_list (by array_mem_dec) ?_) | (show rIsi _ _ _ _; refine rd_isi_list_tuple (by array_mem_dec) ?_) | (show rIsi _ _ _ _; refine rd_isi_tuple_int (by array_mem_dec) ?_) | (show rIsi _ _ _ _; refine rd_isi_tuple_bool (by array_mem_dec) ?_) | (show rIsi _ _ _ _; refine rd_isi_tuple_str (by array_mem_dec) ?_) | (show rIsi _ _ _ _; refine rd_isi_tuple_list (by array_mem_dec) ?_) | (show rIsi _ _ _ _; refine rd_isi_tuple_tuple (by array_mem_dec) ?_) | apply rd_isi_NoneType_int | apply rd_isi_NoneType_bool | apply rd_isi_NoneType_str | apply rd_isi_NoneType_list | apply rd_isi_NoneType_tuple)
local macro_rules | `(tactic| lcg_src) => `(tactic| repeat keq_rows)

local macro_rules | `(tactic| lcg_sub) => `(tactic| with_reducible first | apply rd_chain | apply rd_xmk | apply rd_xst | apply rd_xg)
local macro_rules | `(tactic| lcg_off) => `(tactic| repeat (first | keq_rows | lcg_sub))
section
variable {P : Program} {w : World} {K : PySem.W.Frag} {mg : Str → Option Value} {base : Heap} {a : Ad}
theorem last_at {a : Ad} {F : Hp} {n : Int} {o t : List Nat} {es : List Addr} (h : LastE a F n o t es) : ∀ {k : Nat} {e : Addr}, es[k]? = some e → k < 4 ∧ ∃ C fs, (Cs a)[k + 11]? = some C ∧ ErrAt F C e fs := by
  obtain ⟨e0, e1, e2, e3, rfl, h0, h1, h2, h3⟩ := h
  intro k e hk
  match k, hk with
  | 0, hk => cases hk; exact ⟨by decide, _, _, rfl, h0⟩
  | 1, hk => cases hk; exact ⟨by decide, _, _, rfl, h1⟩
  | 2, hk => cases hk; exact ⟨by decide, _, _, rfl, h2⟩
  | 3, hk => cases hk; exact ⟨by decide, _, _, rfl, h3⟩
def sp_law (K : PySem.W.Frag) : Sp := fun vs H Q _ => ∃ (sc : Addr) (ns : List Int), vs = [.ref sc] ∧ SqL K H sc (ns.map V.int) ∧ ns.length ≤ 63 ∧ ∀ H', Q (.bl true) H'
theorem ok_law (T : Txt K mg a) : FnOk P w K mg base CX0 4 a.f_law a.fd_law ["_law_script"]  (sp_law K) := by
  refine T.F_law.ok sc_law (fun vs H Q E h => ?_) (fun cdv A outer s H vs Q E hr h => ?_)
  · obtain ⟨_, _, rfl, _⟩ := h
    rfl
  · obtain ⟨sc, ns, rfl, hS, hl, k⟩ := h
    refine ⟨_, ((pss_cons (ps_for PassesOwn.never rfl (pi_range1 rfl T.n_range (pa_cons (pe_callB (call_maxI rfl) (by rfl) T.n_max (by decide +kernel) (pa_cons pe_int (pa_cons (pe_callB (call_minI rfl) (by rfl) T.n_min (by decide +kernel) (pa_cons pe_int (pa_cons (pe_callB call_lenSeq (by rfl) T.n_len (by decide +kernel) (pa_cons (pv 0) pa_nil)) pa_nil))) pa_nil))) pa_nil)) (pg_name (i := 1) sc_law.nd rfl (Or.inl rfl))
 (pss_cons (ps_set (i := 2) sc_law.nd rfl (Or.inl rfl) (pe_call (ok_law_bag T) (hr.mono (by decide)) rfl T.g_law_bag T.F_law_bag.kp T.b_law_bag .nil pass0 (pa_cons (pv 0) (pa_cons (pv 1) pa_nil))))
 (pss_one (ps_for PassesOwn.never rfl (pi_range1 rfl T.n_range (pa_cons pe_int pa_nil)) (pg_name (i := 3) sc_law.nd rfl (Or.inl rfl))
 (pss_cons (ps_par (i := 4) (j := 5) (by rfl) sc_law.nd rfl rfl (by decide) rfl rfl (pa_cons (pe_call (ok_law_thing T) hr rfl T.g_law_thing T.F_law_thing.kp T.b_law_thing .nil pass0 (pa_cons (pv 2) pa_nil)) (pa_cons (pe_op op_sub (pe_call (ok_law_take T) (hr.mono (by decide)) rfl T.g_law_take T.F_law_take.kp T.b_law_take .nil pass0 (pa_cons (pv 2) (pa_cons pe_int pa_nil))) pe_int) pa_nil)) (by rfl))
 (pss_cons (ps_par (i := 6) (j := 7) (by rfl) sc_law.nd rfl rfl (by decide) rfl rfl (pa_cons (pe_call (ok_law_letters T) hr rfl T.g_law_letters T.F_law_letters.kp T.b_law_letters .nil pass0 (pa_cons (pv 2) pa_nil)) (pa_cons (pe_call (ok_law_letters T) hr rfl T.g_law_letters T.F_law_letters.kp T.b_law_letters .nil pass0 (pa_cons (pv 2) pa_nil)) pa_nil)) (by rfl))
 (pss_cons (ps_asg (pe_call (ok_law_errors T) hr rfl T.g_law_errors T.F_law_errors.kp T.b_law_errors .nil pass0 (pa_cons (pv 4) (pa_cons (pv 5) (pa_cons (pe_slice sl_str (pv 6) po_none (po_some pe_int)) (pa_cons (pv 7) pa_nil))))) (pg_tup rfl (pgs_cons (pg_name (i := 8) sc_law.nd rfl (Or.inl rfl)) (pgs_cons (pg_name (i := 9) sc_law.nd rfl (Or.inl rfl)) pgs_nil))))
 (pss_cons (ps_for PassesOwn.never rfl (pi_enum (by rfl) T.n_enumerate (pa_cons (pv 8) pa_nil)) (pg_tup rfl (pgs_cons (pg_name (i := 10) sc_law.nd rfl (Or.inr rfl)) (pgs_cons (pg_name (i := 11) sc_law.nd rfl (Or.inl rfl)) pgs_nil)))
 (pss_cons (ps_if (PW.pt (pw_or (pt_not (pt_val (pe_call (ok_law_is T) (hr.mono (by decide)) rfl T.g_law_is T.F_law_is.kp T.b_law_is .nil pass0 (pa_cons (pe_call (ok_law_field T) (hr.mono (by decide)) rfl T.g_law_field T.F_law_field.kp T.b_law_field .nil pass0 (pa_cons (pe_ix ix_tup (pv 11) pe_int (fun _ _ => rfl)) (pa_cons (pe_ix ix_tup (pv 11) pe_int (fun _ _ => rfl)) pa_nil))) (pa_cons (pe_ix ix_tup (pv 11) pe_int (fun _ _ => rfl)) pa_nil))))) (pw_or1 (pt_cmpR (op_neD hr.units) (pe_call (ok_law_under T) (hr.mono (by decide)) rfl T.g_law_under T.F_law_under.kp T.b_law_under .nil pass0 (pa_cons (pe_ix ix_tup (pv 11) pe_int (fun _ _ => rfl)) pa_nil)) (pe_lst (pa_cons pe_bl (pa_cons pe_bl (pa_cons pe_bl (pa_cons pe_bl pa_nil))))) (nomark _)))))
 (pss_one (ps_ret pe_bl))
 pss_nil)
 (pss_one (ps_if (pt_cmpR (op_neD hr.units) (pe_call (ok_law_kinds T) (hr.mono (by decide)) rfl T.g_law_kinds T.F_law_kinds.kp T.b_law_kinds .nil pass0 (pa_cons (pe_ix ix_tup (pv 11) pe_int (fun _ _ => rfl)) pa_nil)) (pe_lc (own := [("_law_place", 12)]) (g := gName 12) (tt := tYes) rfl sc_law.nd (pi_range1 rfl T.n_range (pa_cons pe_int pa_nil)) (blkOk_by (own := [("_law_place", 12)]) (N := ["_law_script", "_law_at", "_law_bag_here", "_law_turn", "_law_thing_here", "_law_number", "_law_one", "_law_two", "_law_first", "_law_last", "_law_k", "_law_row", "_law_place", "_law_each"]) (sc := defScope s_law) (by decide +kernel)) (fun _ _ _ _ _ => (pg_name (i := 12) sc_law.nd rfl (Or.inl rfl))) (fun _ _ _ _ _ => pts_nil) (fun _ _ _ _ _ => (pe_cmpR op_eq (pv 10) (pv 12) (nomark _)))) (nomark _))
 (pss_one (ps_ret pe_bl))
 pss_nil))))
 (pss_cons (ps_for PassesOwn.never rfl (pi_enum (by rfl) T.n_enumerate (pa_cons (pv 9) pa_nil)) (pg_tup rfl (pgs_cons (pg_name (i := 10) sc_law.nd rfl (Or.inr rfl)) (pgs_cons (pg_name (i := 13) sc_law.nd rfl (Or.inl rfl)) pgs_nil)))
 (pss_cons (ps_if (pt_cmpR (op_neD hr.units) (pe_call (ok_law_under T) (hr.mono (by decide)) rfl T.g_law_under T.F_law_under.kp T.b_law_under .nil pass0 (pa_cons (pv 13) pa_nil)) (pe_lst (pa_cons pe_bl (pa_cons pe_bl (pa_cons pe_bl (pa_cons pe_bl pa_nil))))) (nomark _))
 (pss_one (ps_ret pe_bl))
 pss_nil)
 (pss_one (ps_if (pt_cmpR (op_neD hr.units) (pe_call (ok_law_kinds T) (hr.mono (by decide)) rfl T.g_law_kinds T.F_law_kinds.kp T.b_law_kinds .nil pass0 (pa_cons (pv 13) pa_nil)) (pe_lc (own := [("_law_place", 12)]) (g := gName 12) (tt := tYes) rfl sc_law.nd (pi_range1 rfl T.n_range (pa_cons pe_int pa_nil)) (blkOk_by (own := [("_law_place", 12)]) (N := ["_law_script", "_law_at", "_law_bag_here", "_law_turn", "_law_thing_here", "_law_number", "_law_one", "_law_two", "_law_first", "_law_last", "_law_k", "_law_row", "_law_place", "_law_each"]) (sc := defScope s_law) (by decide +kernel)) (fun _ _ _ _ _ => (pg_name (i := 12) sc_law.nd rfl (Or.inl rfl))) (fun _ _ _ _ _ => pts_nil) (fun _ _ _ _ _ => (pe_cmpR op_eq (pe_op op_add (pv 10) pe_int) (pv 12) (nomark _)))) (nomark _))
 (pss_one (ps_ret pe_bl))
 pss_nil))))
 (pss_one (ps_if (pt_not (pt_val (pe_call (ok_law_last_right T) (hr.mono (by decide)) rfl T.g_law_last_right T.F_law_last_right.kp T.b_law_last_right .nil pass0 (pa_cons (pv 9) (pa_cons (pv 5) (pa_cons (pe_slice sl_str (pv 6) po_none (po_some pe_int)) (pa_cons (pv 7) pa_nil)))))))
 (pss_one (ps_ret pe_bl))
 pss_nil)))))))))))
 (pss_one (ps_ret pe_bl)))), ?_⟩
    try simp only [cxK]
    lcg_off
    have hlz : ((ns.map V.int).length : Int) ≤ 63 := by rw [List.length_map]; omega
    have hl0 : 0 ≤ ((ns.map V.int).length : Int) := by omega
    have hr4 : ∀ z : Int, z = (if (if (ns.map V.int).length < (4 : Int) then ((ns.map V.int).length : Int) else 4) > 1 then (if (ns.map V.int).length < (4 : Int) then ((ns.map V.int).length : Int) else 4) else 1) → 1 ≤ z ∧ z ≤ 4 := fun z hz => by
      split at hz <;> (try split at hz) <;> omega
    obtain ⟨hz1, hz4⟩ := hr4 _ rfl
    generalize (if (if (ns.map V.int).length < (4 : Int) then ((ns.map V.int).length : Int) else 4) > 1 then (if (ns.map V.int).length < (4 : Int) then ((ns.map V.int).length : Int) else 4) else 1) = z at hz1 hz4
    refine fk_range (fun i σ H2 => Same H H2 ∧ ∃ u1 u2 u3 u4 u5 u6 u7 u8 u9 u10 u11 u12 u13 : Option V, σ = [some (.ref sc), u1, u2, u3, u4, u5, u6, u7, u8, u9, u10, u11, u12, u13]) ⟨Same.refl _, _, _, _, _, _, _, _, _, _, _, _, _, _, rfl⟩ ?_ ?_
    · rintro i σ H2 hi ⟨s2, u1, u2, u3, u4, u5, u6, u7, u8, u9, u10, u11, u12, u13, rfl⟩
      lcg_off
      refine ⟨sc, ns, _, rfl, s2.seq hS, by omega, by omega, fun b H3 nb s3 hb => ?_⟩
      lcg_off
      refine fk_range (n := (4 : Int).toNat) (fun j σ H4 => ∃ F4, Grow [b] H2 H3 F4 H4 ∧ Bg F4 H4 b (100 * j) ∧ ∃ u3 u4 u5 u6 u7 u8 u9 u10 u11 u12 u13 : Option V, σ = [some (.ref sc), some (.int (i : Nat)), some (.ref b), u3, u4, u5, u6, u7, u8, u9, u10, u11, u12, u13]) ⟨H2, Grow.refl s3, hb, _, _, _, _, _, _, _, _, _, _, _, rfl⟩ ?_ ?_
      · clear u3 u4 u5 u6 u7 u8 u9 u10 u11 u12 u13
        rintro j σ H4 hj ⟨F4, g4, hb4, u3, u4, u5, u6, u7, u8, u9, u10, u11, u12, u13, rfl⟩
        have hj4 : j < 4 := by omega
        lcg_off
        refine ⟨F4, b, _, rfl, hb4, by omega, fun F5 H5 v d g5 hb5 hv hsh => ?_⟩
        lcg_off
        refine take_ok hb5 (by omega) (by decide) (by decide) fun r H6 hr6 g6 hb6 => ?_
        lcg_off
        refine ⟨F5, b, _, rfl, hb6, by omega, fun F7 H7 o g7 hb7 ho oko => ?_⟩
        lcg_off
        refine ⟨F7, b, _, rfl, hb7, by omega, fun F8 H8 t g8 hb8 ht okt => ?_⟩
        lcg_off
        refine rd_slS (by rw [tx_len]; exact sz_of (by omega)) ?_
        rw [show cutS (tx o) none (some 7) = tx (o.take 7) from cutS_to o 7]
        have oko' : okT (o.take 7) := fun c hc => oko c (List.mem_of_mem_take hc)
        have ho' : (o.take 7).length ≤ 8 := by rw [List.length_take]; omega
        have g48 : Grow [b] F4 H4 F8 H8 := ((g5.trans g6).trans g7).trans g8
        have hv8 := (hv.mono g7.ff).mono g8.ff
        lcg_off
        refine ⟨F8, v, d, _, o.take 7, t, rfl, hb8.fh, hv8, hsh, ho', ht, oko', okt, fun F9 H9 p l1 l2 rs es g9 hp h1 h2 hrl hrow hlast => ?_⟩
        have hpH := g9.fh _ _ hp
        have hb9 := hb8.go0 g9
        have h1H := g9.fh _ _ h1
        lcg_off
        refine fk_enum (xs := rs.map V.ref) (fun q σ H10 => ∃ F10, Grow [] F9 H9 F10 H10 ∧ ∃ u10 u11 u12 u13 : Option V, σ = [some (.ref sc), some (.int (i : Nat)), some (.ref b), some (.int (j : Nat)), some v, some (.int ((r : Nat) - 1)), some (.str (tx o)), some (.str (tx t)), some (.ref l1), some (.ref l2), u10, u11, u12, u13])
          ⟨F9, Grow.refl g9.fh, _, _, _, _, rfl⟩ (fun q σ H10 _ ⟨F10, g10, _⟩ => sqL_of (g10.fh _ _ (g10.ff _ _ h1))) ?_ ?_
        · clear u10 u11 u12 u13
          rintro q x T3 σ H10 hx hT ⟨F10, g10, u10, u11, u12, u13, rfl⟩
          rw [List.getElem?_map] at hx
          cases hq : rs[q]? with
          | none => rw [hq] at hx; cases hx
          | some rw_ =>
            rw [hq] at hx
            obtain rfl : V.ref rw_ = x := Option.some.inj hx
            obtain ⟨C, e, f, fv, fd, hC, hr10, he, no, hf, hfd, hfs⟩ := hrow q rw_ hq
            have hq11 : q < 11 := by have := (List.getElem?_eq_some_iff.mp hq).1; omega
            have kd := kind_at T q C hC
            have gT := (Grow.refl (S := []) g10.fh).new (o := .tup [.int (q : Nat), .ref rw_]) hT
            have g11 := g10.trans gT
            generalize upd F10 T3 (.tup [.int (q : Nat), .ref rw_]) = F11 at gT g11
            have hTt : (upd H10 T3 (.tup [.int (q : Nat), .ref rw_])) T3 = some (.tup [.int (q : Nat), .ref rw_]) := upd_same
            generalize upd H10 T3 (.tup [.int (q : Nat), .ref rw_]) = H11 at gT g11 hTt
            have hrH := g11.fh _ _ (g11.ff _ _ hr10)
            have he11 := he.mono g11.ff
            have hfd11 := hfd.mono g11.ff
            lcg_off
            refine ⟨F11, C, e, f, fv, rfl, g11.fh, he11, kd.xf, no, hf, ?_⟩
            lcg_off
            refine ⟨F11, fv, fd, rfl, g11.fh, hfd11, hfs, ?_⟩
            lcg_off
            refine ifF rfl ?_
            lcg_off
            refine ⟨F11, C, e, q, _, rfl, g11.fh, he11, kd, fun F12 H12 p12 g12 e12 => ?_⟩
            rw [decide_eq_true hq11, decide_eq_false (show ¬ 11 ≤ q by omega)] at e12
            lcg_off
            refine newL g12.fh fun F13 H13 p13 g13 _ e13 => ?_
            lcg_off
            refine ne_dat (d := .list ([true, true, false, false].map PyData.bool)) (.lst (sqL_of (g13.ff _ _ e12)) (bl_dp [true, true, false, false])) (.lst (sqL_of e13) (bl_dp [true, true, false, false])) g13.fh (by decide +kernel) ?_
            lcg_off
            refine ifF rfl ?_
            have g1113 := g12.trans g13
            have g913 := g11.trans g1113
            have hr13 := g913.fh _ _ (g913.ff _ _ hr10)
            have he13 := he.mono g913.ff
            lcg_off
            refine ⟨F13, C, e, q, _, rfl, g913.fh, he13, kd, fun F14 H14 p14 g14 e14 => ?_⟩
            lcg_off
            refine lcR (n := (15 : Int).toNat) (by decide) (fun _ => true) (fun jj : Nat => V.bl (decide (V.int ((q : Nat) : Int) = V.int (jj : Int)))) (fun jj H15 hjj s15 Done Kept hd hk => ?_) fun D15 H15 _ s15 e15 => ?_
            · lcg_off
              refine ⟨rfl, ?_⟩
              lcg_off
              refine iteT ?_
              lcg_off
              exact hk _ (Same.refl _) rfl
            · have e15' : H15 D15 = some (.lst ((bits q).map V.bl)) := e15.trans (congrArg (fun z => some (HO.lst z)) (bits_of rfl))
              have g15 : Grow [] F14 H14 F14 H15 := ofSame' g14.fh s15
              lcg_off
              refine ne_dat (F := H15) (d := .list ((bits q).map PyData.bool)) (.lst (sqL_of (g15.fh _ _ e14)) (bl_dp _)) (.lst (sqL_of e15') (bl_dp _)) (Same.refl _) (bits_sh' (by omega)) ?_
              lcg_off
              refine ifF rfl ?_
              lcg_off
              exact ⟨F14, g913.trans (g14.trans g15), _, _, _, _, rfl⟩
        clear u10 u11 u12 u13
        rintro σ H10 ⟨F10, g10, u10, u11, u12, u13, rfl⟩
        have h2a := g10.fh _ _ (g10.ff _ _ h2)
        lcg_off
        refine fk_enum (xs := es.map V.ref) (fun q σ H11 => ∃ F11, Grow [] F9 H9 F11 H11 ∧ ∃ u10 u11 u12 u13 : Option V, σ = [some (.ref sc), some (.int (i : Nat)), some (.ref b), some (.int (j : Nat)), some v, some (.int ((r : Nat) - 1)), some (.str (tx o)), some (.str (tx t)), some (.ref l1), some (.ref l2), u10, u11, u12, u13])
          ⟨F10, g10, _, _, _, _, rfl⟩ (fun q σ H11 _ ⟨F11, g11, _⟩ => sqL_of (g11.fh _ _ (g11.ff _ _ h2))) ?_ ?_
        · clear u10 u11 u12 u13
          rintro q x T3 σ H11 hx hT ⟨F11, g11, u10, u11, u12, u13, rfl⟩
          rw [List.getElem?_map] at hx
          cases hq : es[q]? with
          | none => rw [hq] at hx; cases hx
          | some e =>
            rw [hq] at hx
            obtain rfl : V.ref e = x := Option.some.inj hx
            obtain ⟨hq4, C, fs, hC, he⟩ := last_at hlast hq
            have kd := kind_at T (q + 11) C hC
            have gT := (Grow.refl (S := []) g11.fh).new (o := .tup [.int (q : Nat), .ref e]) hT
            have g12 := g11.trans gT
            generalize upd F11 T3 (.tup [.int (q : Nat), .ref e]) = F12 at gT g12
            have hTt : (upd H11 T3 (.tup [.int (q : Nat), .ref e])) T3 = some (.tup [.int (q : Nat), .ref e]) := upd_same
            generalize upd H11 T3 (.tup [.int (q : Nat), .ref e]) = H12 at gT g12 hTt
            have he12 := he.mono g12.ff
            lcg_off
            refine ⟨F12, C, e, q + 11, _, rfl, g12.fh, he12, kd, fun F13 H13 p13 g13 e13 => ?_⟩
            rw [decide_eq_false (show ¬ q + 11 < 11 by omega), decide_eq_true (show 11 ≤ q + 11 by omega)] at e13
            lcg_off
            refine newL g13.fh fun F14 H14 p14 g14 _ e14 => ?_
            lcg_off
            refine ne_dat (d := .list ([false, false, true, false].map PyData.bool)) (.lst (sqL_of (g14.ff _ _ e13)) (bl_dp [false, false, true, false])) (.lst (sqL_of e14) (bl_dp [false, false, true, false])) g14.fh (by decide +kernel) ?_
            lcg_off
            refine ifF rfl ?_
            have g1214 := g13.trans g14
            have g914 := g12.trans g1214
            have he14 := he.mono g914.ff
            lcg_off
            refine ⟨F14, C, e, q + 11, _, rfl, g914.fh, he14, kd, fun F15 H15 p15 g15 e15 => ?_⟩
            lcg_off
            refine lcR (n := (15 : Int).toNat) (by decide) (fun _ => true) (fun jj : Nat => V.bl (decide (V.int (((q : Nat) : Int) + 11) = V.int (jj : Int)))) (fun jj H16 hjj s16 Done Kept hd hk => ?_) fun D16 H16 _ s16 e16 => ?_
            · lcg_off
              refine ⟨rfl, ?_⟩
              lcg_off
              refine iteT ?_
              lcg_off
              exact hk _ (Same.refl _) rfl
            · have e16' : H16 D16 = some (.lst ((bits (q + 11)).map V.bl)) := e16.trans (congrArg (fun z => some (HO.lst z)) (bits_of (by omega)))
              have g16 : Grow [] F15 H15 F15 H16 := ofSame' g15.fh s16
              lcg_off
              refine ne_dat (F := H16) (d := .list ((bits (q + 11)).map PyData.bool)) (.lst (sqL_of (g16.fh _ _ e15)) (bl_dp _)) (.lst (sqL_of e16') (bl_dp _)) (Same.refl _) (bits_sh' (by omega)) ?_
              lcg_off
              refine ifF rfl ?_
              lcg_off
              exact ⟨F15, g914.trans (g15.trans g16), _, _, _, _, rfl⟩
        clear u10 u11 u12 u13
        rintro σ H11 ⟨F11, g11, u10, u11, u12, u13, rfl⟩
        lcg_off
        refine rd_slS (by rw [tx_len]; exact sz_of (by omega)) ?_
        rw [show cutS (tx o) none (some 7) = tx (o.take 7) from cutS_to o 7]
        lcg_off
        refine ⟨F11, l2, es, _, o.take 7, t, rfl, g11.fh, g11.ff _ _ h2, ?_, ho', ?_⟩
        · obtain ⟨e0, e1, e2, e3, z, z0, z1, z2, z3⟩ := hlast
          exact ⟨e0, e1, e2, e3, z, z0.mono g11.ff, z1.mono g11.ff, z2.mono g11.ff, z3.mono g11.ff⟩
        · lcg_off
          refine ifF rfl ?_
          lcg_off
          exact ⟨F11, g4.trans (g48.step (S' := []) (g9.trans g11)), ((hb9.go0 g11).le (by omega)), _, _, _, _, _, _, _, _, _, _, _, rfl⟩
      · clear u3 u4 u5 u6 u7 u8 u9 u10 u11 u12 u13
        rintro σ H4 ⟨F4, g4, hb4, u3, u4, u5, u6, u7, u8, u9, u10, u11, u12, u13, rfl⟩
        lcg_off
        exact ⟨s2.trans (g4.ff.trans g4.fh), _, _, _, _, _, _, _, _, _, _, _, _, _, rfl⟩
    · rintro σ H2 ⟨s2, u1, u2, u3, u4, u5, u6, u7, u8, u9, u10, u11, u12, u13, rfl⟩
      lcg_off
      exact k H2
end
end Er

section
open PySem PySem.W PyProof.Rows
set_option maxHeartbeats 0 in
open_top hd for PySem.Challenge.rw_heirsback_k90_errors_of_the_package
end
namespace Er
open PySem L2 Hk
theorem all_mk {l : PySem.W.OpenLaw} {w : World} {K : PySem.W.Frag} {h : Heap} {mg : Str → Option Value} {fa : Addr} (X : K.In h) (G : h.Ns mainGlobals mg) (hfa : mg "law" = some (.ref fa))
    {f_BadLibrary_init : Addr} {od_BadLibrary_init an_BadLibrary_init : Option Addr} {sl_BadLibrary_init : Array (Option Value)} {oc_BadLibrary_init kV_BadLibrary_init dc_BadLibrary_init pm_BadLibrary_init cd_BadLibrary_init ct_BadLibrary_init : Value}
    {f_BadWorld_init : Addr} {od_BadWorld_init an_BadWorld_init : Option Addr} {sl_BadWorld_init : Array (Option Value)} {oc_BadWorld_init kV_BadWorld_init dc_BadWorld_init pm_BadWorld_init cd_BadWorld_init ct_BadWorld_init : Value}
    {f_BadValue_init : Addr} {od_BadValue_init an_BadValue_init : Option Addr} {sl_BadValue_init : Array (Option Value)} {oc_BadValue_init kV_BadValue_init dc_BadValue_init pm_BadValue_init cd_BadValue_init ct_BadValue_init : Value}
    {f_BadExpression_init : Addr} {od_BadExpression_init an_BadExpression_init : Option Addr} {sl_BadExpression_init : Array (Option Value)} {oc_BadExpression_init kV_BadExpression_init dc_BadExpression_init pm_BadExpression_init cd_BadExpression_init ct_BadExpression_init : Value}
    {f_BadFamily_init : Addr} {od_BadFamily_init an_BadFamily_init : Option Addr} {sl_BadFamily_init : Array (Option Value)} {oc_BadFamily_init kV_BadFamily_init dc_BadFamily_init pm_BadFamily_init cd_BadFamily_init ct_BadFamily_init : Value}
    {f_BadVirtue_init : Addr} {od_BadVirtue_init an_BadVirtue_init : Option Addr} {sl_BadVirtue_init : Array (Option Value)} {oc_BadVirtue_init kV_BadVirtue_init dc_BadVirtue_init pm_BadVirtue_init cd_BadVirtue_init ct_BadVirtue_init : Value}
    {f_BadMaker_init : Addr} {od_BadMaker_init an_BadMaker_init : Option Addr} {sl_BadMaker_init : Array (Option Value)} {oc_BadMaker_init kV_BadMaker_init dc_BadMaker_init pm_BadMaker_init cd_BadMaker_init ct_BadMaker_init : Value}
    {f_NoClass_init : Addr} {od_NoClass_init an_NoClass_init : Option Addr} {sl_NoClass_init : Array (Option Value)} {oc_NoClass_init kV_NoClass_init dc_NoClass_init pm_NoClass_init cd_NoClass_init ct_NoClass_init : Value}
    {f_NoSign_init : Addr} {od_NoSign_init an_NoSign_init : Option Addr} {sl_NoSign_init : Array (Option Value)} {oc_NoSign_init kV_NoSign_init dc_NoSign_init pm_NoSign_init cd_NoSign_init ct_NoSign_init : Value}
    {f_TooMany_init : Addr} {od_TooMany_init an_TooMany_init : Option Addr} {sl_TooMany_init : Array (Option Value)} {oc_TooMany_init kV_TooMany_init dc_TooMany_init pm_TooMany_init cd_TooMany_init ct_TooMany_init : Value}
    {f_Unlike_init : Addr} {od_Unlike_init an_Unlike_init : Option Addr} {sl_Unlike_init : Array (Option Value)} {oc_Unlike_init kV_Unlike_init dc_Unlike_init pm_Unlike_init cd_Unlike_init ct_Unlike_init : Value}
    {f_Surplus_init : Addr} {od_Surplus_init an_Surplus_init : Option Addr} {sl_Surplus_init : Array (Option Value)} {oc_Surplus_init kV_Surplus_init dc_Surplus_init pm_Surplus_init cd_Surplus_init ct_Surplus_init : Value}
    {f_Lacking_init : Addr} {od_Lacking_init an_Lacking_init : Option Addr} {sl_Lacking_init : Array (Option Value)} {oc_Lacking_init kV_Lacking_init dc_Lacking_init pm_Lacking_init cd_Lacking_init ct_Lacking_init : Value}
    {f_Unknown_init : Addr} {od_Unknown_init an_Unknown_init : Option Addr} {sl_Unknown_init : Array (Option Value)} {oc_Unknown_init kV_Unknown_init dc_Unknown_init pm_Unknown_init cd_Unknown_init ct_Unknown_init : Value}
    {f_Failed_init : Addr} {od_Failed_init an_Failed_init : Option Addr} {sl_Failed_init : Array (Option Value)} {oc_Failed_init kV_Failed_init dc_Failed_init pm_Failed_init cd_Failed_init ct_Failed_init : Value}
    {f_law_bag : Addr} {od_law_bag an_law_bag : Option Addr} {sl_law_bag : Array (Option Value)} {oc_law_bag kV_law_bag dc_law_bag pm_law_bag cd_law_bag ct_law_bag : Value}
    {f_law_take : Addr} {od_law_take an_law_take : Option Addr} {sl_law_take : Array (Option Value)} {oc_law_take kV_law_take dc_law_take pm_law_take cd_law_take ct_law_take : Value}
    {f_law_of : Addr} {od_law_of an_law_of : Option Addr} {sl_law_of : Array (Option Value)} {oc_law_of kV_law_of dc_law_of pm_law_of cd_law_of ct_law_of : Value}
    {f_law_thing : Addr} {od_law_thing an_law_thing : Option Addr} {sl_law_thing : Array (Option Value)} {oc_law_thing kV_law_thing dc_law_thing pm_law_thing cd_law_thing ct_law_thing : Value}
    {f_law_letters : Addr} {od_law_letters an_law_letters : Option Addr} {sl_law_letters : Array (Option Value)} {oc_law_letters kV_law_letters dc_law_letters pm_law_letters cd_law_letters ct_law_letters : Value}
    {f_law_errors : Addr} {od_law_errors an_law_errors : Option Addr} {sl_law_errors : Array (Option Value)} {oc_law_errors kV_law_errors dc_law_errors pm_law_errors cd_law_errors ct_law_errors : Value}
    {f_law_kinds : Addr} {od_law_kinds an_law_kinds : Option Addr} {sl_law_kinds : Array (Option Value)} {oc_law_kinds kV_law_kinds dc_law_kinds pm_law_kinds cd_law_kinds ct_law_kinds : Value}
    {f_law_field : Addr} {od_law_field an_law_field : Option Addr} {sl_law_field : Array (Option Value)} {oc_law_field kV_law_field dc_law_field pm_law_field cd_law_field ct_law_field : Value}
    {f_law_is : Addr} {od_law_is an_law_is : Option Addr} {sl_law_is : Array (Option Value)} {oc_law_is kV_law_is dc_law_is pm_law_is cd_law_is ct_law_is : Value}
    {f_law_under : Addr} {od_law_under an_law_under : Option Addr} {sl_law_under : Array (Option Value)} {oc_law_under kV_law_under dc_law_under pm_law_under cd_law_under ct_law_under : Value}
    {f_law_last_right : Addr} {od_law_last_right an_law_last_right : Option Addr} {sl_law_last_right : Array (Option Value)} {oc_law_last_right kV_law_last_right dc_law_last_right pm_law_last_right cd_law_last_right ct_law_last_right : Value}
    {f_law : Addr} {od_law an_law : Option Addr} {sl_law : Array (Option Value)} {oc_law kV_law dc_law pm_law cd_law ct_law : Value}
    {C_HeirsbackError : Addr}
    {C_BadLibrary : Addr}
    {nm_BadLibrary q_BadLibrary : Str} {N_BadLibrary : Addr} {bs_BadLibrary : List Value} {sn_BadLibrary : List Str} {sub_BadLibrary : List Value} {ab_BadLibrary : Bool} {col_BadLibrary : Option Bool} {dd_BadLibrary : Option Addr} {k0_BadLibrary k1_BadLibrary k2_BadLibrary k3_BadLibrary k5_BadLibrary : Option Value}
    {C_BadWorld : Addr}
    {nm_BadWorld q_BadWorld : Str} {N_BadWorld : Addr} {bs_BadWorld : List Value} {sn_BadWorld : List Str} {sub_BadWorld : List Value} {ab_BadWorld : Bool} {col_BadWorld : Option Bool} {dd_BadWorld : Option Addr} {k0_BadWorld k1_BadWorld k2_BadWorld k3_BadWorld k5_BadWorld : Option Value}
    {C_BadValue : Addr}
    {nm_BadValue q_BadValue : Str} {N_BadValue : Addr} {bs_BadValue : List Value} {sn_BadValue : List Str} {sub_BadValue : List Value} {ab_BadValue : Bool} {col_BadValue : Option Bool} {dd_BadValue : Option Addr} {k0_BadValue k1_BadValue k2_BadValue k3_BadValue k5_BadValue : Option Value}
    {C_BadExpression : Addr}
    {nm_BadExpression q_BadExpression : Str} {N_BadExpression : Addr} {bs_BadExpression : List Value} {sn_BadExpression : List Str} {sub_BadExpression : List Value} {ab_BadExpression : Bool} {col_BadExpression : Option Bool} {dd_BadExpression : Option Addr} {k0_BadExpression k1_BadExpression k2_BadExpression k3_BadExpression k5_BadExpression : Option Value}
    {C_BadFamily : Addr}
    {nm_BadFamily q_BadFamily : Str} {N_BadFamily : Addr} {bs_BadFamily : List Value} {sn_BadFamily : List Str} {sub_BadFamily : List Value} {ab_BadFamily : Bool} {col_BadFamily : Option Bool} {dd_BadFamily : Option Addr} {k0_BadFamily k1_BadFamily k2_BadFamily k3_BadFamily k5_BadFamily : Option Value}
    {C_BadVirtue : Addr}
    {nm_BadVirtue q_BadVirtue : Str} {N_BadVirtue : Addr} {bs_BadVirtue : List Value} {sn_BadVirtue : List Str} {sub_BadVirtue : List Value} {ab_BadVirtue : Bool} {col_BadVirtue : Option Bool} {dd_BadVirtue : Option Addr} {k0_BadVirtue k1_BadVirtue k2_BadVirtue k3_BadVirtue k5_BadVirtue : Option Value}
    {C_BadMaker : Addr}
    {nm_BadMaker q_BadMaker : Str} {N_BadMaker : Addr} {bs_BadMaker : List Value} {sn_BadMaker : List Str} {sub_BadMaker : List Value} {ab_BadMaker : Bool} {col_BadMaker : Option Bool} {dd_BadMaker : Option Addr} {k0_BadMaker k1_BadMaker k2_BadMaker k3_BadMaker k5_BadMaker : Option Value}
    {C_NoClass : Addr}
    {nm_NoClass q_NoClass : Str} {N_NoClass : Addr} {bs_NoClass : List Value} {sn_NoClass : List Str} {sub_NoClass : List Value} {ab_NoClass : Bool} {col_NoClass : Option Bool} {dd_NoClass : Option Addr} {k0_NoClass k1_NoClass k2_NoClass k3_NoClass k5_NoClass : Option Value}
    {C_NoSign : Addr}
    {nm_NoSign q_NoSign : Str} {N_NoSign : Addr} {bs_NoSign : List Value} {sn_NoSign : List Str} {sub_NoSign : List Value} {ab_NoSign : Bool} {col_NoSign : Option Bool} {dd_NoSign : Option Addr} {k0_NoSign k1_NoSign k2_NoSign k3_NoSign k5_NoSign : Option Value}
    {C_TooMany : Addr}
    {nm_TooMany q_TooMany : Str} {N_TooMany : Addr} {bs_TooMany : List Value} {sn_TooMany : List Str} {sub_TooMany : List Value} {ab_TooMany : Bool} {col_TooMany : Option Bool} {dd_TooMany : Option Addr} {k0_TooMany k1_TooMany k2_TooMany k3_TooMany k5_TooMany : Option Value}
    {C_Unlike : Addr}
    {nm_Unlike q_Unlike : Str} {N_Unlike : Addr} {bs_Unlike : List Value} {sn_Unlike : List Str} {sub_Unlike : List Value} {ab_Unlike : Bool} {col_Unlike : Option Bool} {dd_Unlike : Option Addr} {k0_Unlike k1_Unlike k2_Unlike k3_Unlike k5_Unlike : Option Value}
    {C_Surplus : Addr}
    {nm_Surplus q_Surplus : Str} {N_Surplus : Addr} {bs_Surplus : List Value} {sn_Surplus : List Str} {sub_Surplus : List Value} {ab_Surplus : Bool} {col_Surplus : Option Bool} {dd_Surplus : Option Addr} {k0_Surplus k1_Surplus k2_Surplus k3_Surplus k5_Surplus : Option Value}
    {C_Lacking : Addr}
    {nm_Lacking q_Lacking : Str} {N_Lacking : Addr} {bs_Lacking : List Value} {sn_Lacking : List Str} {sub_Lacking : List Value} {ab_Lacking : Bool} {col_Lacking : Option Bool} {dd_Lacking : Option Addr} {k0_Lacking k1_Lacking k2_Lacking k3_Lacking k5_Lacking : Option Value}
    {C_Unknown : Addr}
    {nm_Unknown q_Unknown : Str} {N_Unknown : Addr} {bs_Unknown : List Value} {sn_Unknown : List Str} {sub_Unknown : List Value} {ab_Unknown : Bool} {col_Unknown : Option Bool} {dd_Unknown : Option Addr} {k0_Unknown k1_Unknown k2_Unknown k3_Unknown k5_Unknown : Option Value}
    {C_Failed : Addr}
    {nm_Failed q_Failed : Str} {N_Failed : Addr} {bs_Failed : List Value} {sn_Failed : List Str} {sub_Failed : List Value} {ab_Failed : Bool} {col_Failed : Option Bool} {dd_Failed : Option Addr} {k0_Failed k1_Failed k2_Failed k3_Failed k5_Failed : Option Value}
    (a_C_HeirsbackError : PySem.W.nsIn K mainGlobals "HeirsbackError" = some (some (.ref C_HeirsbackError)))
    (a_C_BadLibrary : PySem.W.nsIn K mainGlobals "BadLibrary" = some (some (.ref C_BadLibrary)))
    (a_C_BadWorld : PySem.W.nsIn K mainGlobals "BadWorld" = some (some (.ref C_BadWorld)))
    (a_C_BadValue : PySem.W.nsIn K mainGlobals "BadValue" = some (some (.ref C_BadValue)))
    (a_C_BadExpression : PySem.W.nsIn K mainGlobals "BadExpression" = some (some (.ref C_BadExpression)))
    (a_C_BadFamily : PySem.W.nsIn K mainGlobals "BadFamily" = some (some (.ref C_BadFamily)))
    (a_C_BadVirtue : PySem.W.nsIn K mainGlobals "BadVirtue" = some (some (.ref C_BadVirtue)))
    (a_C_BadMaker : PySem.W.nsIn K mainGlobals "BadMaker" = some (some (.ref C_BadMaker)))
    (a_C_NoClass : PySem.W.nsIn K mainGlobals "NoClass" = some (some (.ref C_NoClass)))
    (a_C_NoSign : PySem.W.nsIn K mainGlobals "NoSign" = some (some (.ref C_NoSign)))
    (a_C_TooMany : PySem.W.nsIn K mainGlobals "TooMany" = some (some (.ref C_TooMany)))
    (a_C_Unlike : PySem.W.nsIn K mainGlobals "Unlike" = some (some (.ref C_Unlike)))
    (a_C_Surplus : PySem.W.nsIn K mainGlobals "Surplus" = some (some (.ref C_Surplus)))
    (a_C_Lacking : PySem.W.nsIn K mainGlobals "Lacking" = some (some (.ref C_Lacking)))
    (a_C_Unknown : PySem.W.nsIn K mainGlobals "Unknown" = some (some (.ref C_Unknown)))
    (a_C_Failed : PySem.W.nsIn K mainGlobals "Failed" = some (some (.ref C_Failed)))
    (a_BadLibrary_init : PySem.W.findIn K (.ref C_BadLibrary) "__init__" = some (some (.ref f_BadLibrary_init)))
    (i_BadLibrary_init : PySem.W.isFn K (.ref f_BadLibrary_init) = true)
    (l_BadLibrary_init : K.lookup f_BadLibrary_init = some ⟨oc_BadLibrary_init, od_BadLibrary_init, .func (PySem.W.fnOf "__init__" "BadLibrary.__init__" (defArgs s_BadLibrary_init) (defBody s_BadLibrary_init) (defScope s_BadLibrary_init) .none kV_BadLibrary_init dc_BadLibrary_init pm_BadLibrary_init an_BadLibrary_init cd_BadLibrary_init ct_BadLibrary_init), sl_BadLibrary_init⟩)
    (c_BadLibrary_init : PySem.W.codeIn K cd_BadLibrary_init "BadLibrary.__init__" = true)
    (k_BadLibrary_init : PySem.W.keepIn K (.ref f_BadLibrary_init) = true)
    (a_BadWorld_init : PySem.W.findIn K (.ref C_BadWorld) "__init__" = some (some (.ref f_BadWorld_init)))
    (i_BadWorld_init : PySem.W.isFn K (.ref f_BadWorld_init) = true)
    (l_BadWorld_init : K.lookup f_BadWorld_init = some ⟨oc_BadWorld_init, od_BadWorld_init, .func (PySem.W.fnOf "__init__" "BadWorld.__init__" (defArgs s_BadWorld_init) (defBody s_BadWorld_init) (defScope s_BadWorld_init) .none kV_BadWorld_init dc_BadWorld_init pm_BadWorld_init an_BadWorld_init cd_BadWorld_init ct_BadWorld_init), sl_BadWorld_init⟩)
    (c_BadWorld_init : PySem.W.codeIn K cd_BadWorld_init "BadWorld.__init__" = true)
    (k_BadWorld_init : PySem.W.keepIn K (.ref f_BadWorld_init) = true)
    (a_BadValue_init : PySem.W.findIn K (.ref C_BadValue) "__init__" = some (some (.ref f_BadValue_init)))
    (i_BadValue_init : PySem.W.isFn K (.ref f_BadValue_init) = true)
    (l_BadValue_init : K.lookup f_BadValue_init = some ⟨oc_BadValue_init, od_BadValue_init, .func (PySem.W.fnOf "__init__" "BadValue.__init__" (defArgs s_BadValue_init) (defBody s_BadValue_init) (defScope s_BadValue_init) .none kV_BadValue_init dc_BadValue_init pm_BadValue_init an_BadValue_init cd_BadValue_init ct_BadValue_init), sl_BadValue_init⟩)
    (c_BadValue_init : PySem.W.codeIn K cd_BadValue_init "BadValue.__init__" = true)
    (k_BadValue_init : PySem.W.keepIn K (.ref f_BadValue_init) = true)
    (a_BadExpression_init : PySem.W.findIn K (.ref C_BadExpression) "__init__" = some (some (.ref f_BadExpression_init)))
    (i_BadExpression_init : PySem.W.isFn K (.ref f_BadExpression_init) = true)
    (l_BadExpression_init : K.lookup f_BadExpression_init = some ⟨oc_BadExpression_init, od_BadExpression_init, .func (PySem.W.fnOf "__init__" "BadExpression.__init__" (defArgs s_BadExpression_init) (defBody s_BadExpression_init) (defScope s_BadExpression_init) .none kV_BadExpression_init dc_BadExpression_init pm_BadExpression_init an_BadExpression_init cd_BadExpression_init ct_BadExpression_init), sl_BadExpression_init⟩)
    (c_BadExpression_init : PySem.W.codeIn K cd_BadExpression_init "BadExpression.__init__" = true)
    (k_BadExpression_init : PySem.W.keepIn K (.ref f_BadExpression_init) = true)
    (a_BadFamily_init : PySem.W.findIn K (.ref C_BadFamily) "__init__" = some (some (.ref f_BadFamily_init)))
    (i_BadFamily_init : PySem.W.isFn K (.ref f_BadFamily_init) = true)
    (l_BadFamily_init : K.lookup f_BadFamily_init = some ⟨oc_BadFamily_init, od_BadFamily_init, .func (PySem.W.fnOf "__init__" "BadFamily.__init__" (defArgs s_BadFamily_init) (defBody s_BadFamily_init) (defScope s_BadFamily_init) .none kV_BadFamily_init dc_BadFamily_init pm_BadFamily_init an_BadFamily_init cd_BadFamily_init ct_BadFamily_init), sl_BadFamily_init⟩)
    (c_BadFamily_init : PySem.W.codeIn K cd_BadFamily_init "BadFamily.__init__" = true)
    (k_BadFamily_init : PySem.W.keepIn K (.ref f_BadFamily_init) = true)
    (a_BadVirtue_init : PySem.W.findIn K (.ref C_BadVirtue) "__init__" = some (some (.ref f_BadVirtue_init)))
    (i_BadVirtue_init : PySem.W.isFn K (.ref f_BadVirtue_init) = true)
    (l_BadVirtue_init : K.lookup f_BadVirtue_init = some ⟨oc_BadVirtue_init, od_BadVirtue_init, .func (PySem.W.fnOf "__init__" "BadVirtue.__init__" (defArgs s_BadVirtue_init) (defBody s_BadVirtue_init) (defScope s_BadVirtue_init) .none kV_BadVirtue_init dc_BadVirtue_init pm_BadVirtue_init an_BadVirtue_init cd_BadVirtue_init ct_BadVirtue_init), sl_BadVirtue_init⟩)
    (c_BadVirtue_init : PySem.W.codeIn K cd_BadVirtue_init "BadVirtue.__init__" = true)
    (k_BadVirtue_init : PySem.W.keepIn K (.ref f_BadVirtue_init) = true)
    (a_BadMaker_init : PySem.W.findIn K (.ref C_BadMaker) "__init__" = some (some (.ref f_BadMaker_init)))
    (i_BadMaker_init : PySem.W.isFn K (.ref f_BadMaker_init) = true)
    (l_BadMaker_init : K.lookup f_BadMaker_init = some ⟨oc_BadMaker_init, od_BadMaker_init, .func (PySem.W.fnOf "__init__" "BadMaker.__init__" (defArgs s_BadMaker_init) (defBody s_BadMaker_init) (defScope s_BadMaker_init) .none kV_BadMaker_init dc_BadMaker_init pm_BadMaker_init an_BadMaker_init cd_BadMaker_init ct_BadMaker_init), sl_BadMaker_init⟩)
    (c_BadMaker_init : PySem.W.codeIn K cd_BadMaker_init "BadMaker.__init__" = true)
    (k_BadMaker_init : PySem.W.keepIn K (.ref f_BadMaker_init) = true)
    (a_NoClass_init : PySem.W.findIn K (.ref C_NoClass) "__init__" = some (some (.ref f_NoClass_init)))
    (i_NoClass_init : PySem.W.isFn K (.ref f_NoClass_init) = true)
    (l_NoClass_init : K.lookup f_NoClass_init = some ⟨oc_NoClass_init, od_NoClass_init, .func (PySem.W.fnOf "__init__" "NoClass.__init__" (defArgs s_NoClass_init) (defBody s_NoClass_init) (defScope s_NoClass_init) .none kV_NoClass_init dc_NoClass_init pm_NoClass_init an_NoClass_init cd_NoClass_init ct_NoClass_init), sl_NoClass_init⟩)
    (c_NoClass_init : PySem.W.codeIn K cd_NoClass_init "NoClass.__init__" = true)
    (k_NoClass_init : PySem.W.keepIn K (.ref f_NoClass_init) = true)
    (a_NoSign_init : PySem.W.findIn K (.ref C_NoSign) "__init__" = some (some (.ref f_NoSign_init)))
    (i_NoSign_init : PySem.W.isFn K (.ref f_NoSign_init) = true)
    (l_NoSign_init : K.lookup f_NoSign_init = some ⟨oc_NoSign_init, od_NoSign_init, .func (PySem.W.fnOf "__init__" "NoSign.__init__" (defArgs s_NoSign_init) (defBody s_NoSign_init) (defScope s_NoSign_init) .none kV_NoSign_init dc_NoSign_init pm_NoSign_init an_NoSign_init cd_NoSign_init ct_NoSign_init), sl_NoSign_init⟩)
    (c_NoSign_init : PySem.W.codeIn K cd_NoSign_init "NoSign.__init__" = true)
    (k_NoSign_init : PySem.W.keepIn K (.ref f_NoSign_init) = true)
    (a_TooMany_init : PySem.W.findIn K (.ref C_TooMany) "__init__" = some (some (.ref f_TooMany_init)))
    (i_TooMany_init : PySem.W.isFn K (.ref f_TooMany_init) = true)
    (l_TooMany_init : K.lookup f_TooMany_init = some ⟨oc_TooMany_init, od_TooMany_init, .func (PySem.W.fnOf "__init__" "TooMany.__init__" (defArgs s_TooMany_init) (defBody s_TooMany_init) (defScope s_TooMany_init) .none kV_TooMany_init dc_TooMany_init pm_TooMany_init an_TooMany_init cd_TooMany_init ct_TooMany_init), sl_TooMany_init⟩)
    (c_TooMany_init : PySem.W.codeIn K cd_TooMany_init "TooMany.__init__" = true)
    (k_TooMany_init : PySem.W.keepIn K (.ref f_TooMany_init) = true)
    (a_Unlike_init : PySem.W.findIn K (.ref C_Unlike) "__init__" = some (some (.ref f_Unlike_init)))
    (i_Unlike_init : PySem.W.isFn K (.ref f_Unlike_init) = true)
    (l_Unlike_init : K.lookup f_Unlike_init = some ⟨oc_Unlike_init, od_Unlike_init, .func (PySem.W.fnOf "__init__" "Unlike.__init__" (defArgs s_Unlike_init) (defBody s_Unlike_init) (defScope s_Unlike_init) .none kV_Unlike_init dc_Unlike_init pm_Unlike_init an_Unlike_init cd_Unlike_init ct_Unlike_init), sl_Unlike_init⟩)
    (c_Unlike_init : PySem.W.codeIn K cd_Unlike_init "Unlike.__init__" = true)
    (k_Unlike_init : PySem.W.keepIn K (.ref f_Unlike_init) = true)
    (a_Surplus_init : PySem.W.findIn K (.ref C_Surplus) "__init__" = some (some (.ref f_Surplus_init)))
    (i_Surplus_init : PySem.W.isFn K (.ref f_Surplus_init) = true)
    (l_Surplus_init : K.lookup f_Surplus_init = some ⟨oc_Surplus_init, od_Surplus_init, .func (PySem.W.fnOf "__init__" "Surplus.__init__" (defArgs s_Surplus_init) (defBody s_Surplus_init) (defScope s_Surplus_init) .none kV_Surplus_init dc_Surplus_init pm_Surplus_init an_Surplus_init cd_Surplus_init ct_Surplus_init), sl_Surplus_init⟩)
    (c_Surplus_init : PySem.W.codeIn K cd_Surplus_init "Surplus.__init__" = true)
    (k_Surplus_init : PySem.W.keepIn K (.ref f_Surplus_init) = true)
    (a_Lacking_init : PySem.W.findIn K (.ref C_Lacking) "__init__" = some (some (.ref f_Lacking_init)))
    (i_Lacking_init : PySem.W.isFn K (.ref f_Lacking_init) = true)
    (l_Lacking_init : K.lookup f_Lacking_init = some ⟨oc_Lacking_init, od_Lacking_init, .func (PySem.W.fnOf "__init__" "Lacking.__init__" (defArgs s_Lacking_init) (defBody s_Lacking_init) (defScope s_Lacking_init) .none kV_Lacking_init dc_Lacking_init pm_Lacking_init an_Lacking_init cd_Lacking_init ct_Lacking_init), sl_Lacking_init⟩)
    (c_Lacking_init : PySem.W.codeIn K cd_Lacking_init "Lacking.__init__" = true)
    (k_Lacking_init : PySem.W.keepIn K (.ref f_Lacking_init) = true)
    (a_Unknown_init : PySem.W.findIn K (.ref C_Unknown) "__init__" = some (some (.ref f_Unknown_init)))
    (i_Unknown_init : PySem.W.isFn K (.ref f_Unknown_init) = true)
    (l_Unknown_init : K.lookup f_Unknown_init = some ⟨oc_Unknown_init, od_Unknown_init, .func (PySem.W.fnOf "__init__" "Unknown.__init__" (defArgs s_Unknown_init) (defBody s_Unknown_init) (defScope s_Unknown_init) .none kV_Unknown_init dc_Unknown_init pm_Unknown_init an_Unknown_init cd_Unknown_init ct_Unknown_init), sl_Unknown_init⟩)
    (c_Unknown_init : PySem.W.codeIn K cd_Unknown_init "Unknown.__init__" = true)
    (k_Unknown_init : PySem.W.keepIn K (.ref f_Unknown_init) = true)
    (a_Failed_init : PySem.W.findIn K (.ref C_Failed) "__init__" = some (some (.ref f_Failed_init)))
    (i_Failed_init : PySem.W.isFn K (.ref f_Failed_init) = true)
    (l_Failed_init : K.lookup f_Failed_init = some ⟨oc_Failed_init, od_Failed_init, .func (PySem.W.fnOf "__init__" "Failed.__init__" (defArgs s_Failed_init) (defBody s_Failed_init) (defScope s_Failed_init) .none kV_Failed_init dc_Failed_init pm_Failed_init an_Failed_init cd_Failed_init ct_Failed_init), sl_Failed_init⟩)
    (c_Failed_init : PySem.W.codeIn K cd_Failed_init "Failed.__init__" = true)
    (k_Failed_init : PySem.W.keepIn K (.ref f_Failed_init) = true)
    (a_law_bag : PySem.W.nsIn K mainGlobals "_law_bag" = some (some (.ref f_law_bag)))
    (l_law_bag : K.lookup f_law_bag = some ⟨oc_law_bag, od_law_bag, .func (PySem.W.fnOf "_law_bag" "_law_bag" (defArgs s_law_bag) (defBody s_law_bag) (defScope s_law_bag) .none kV_law_bag dc_law_bag pm_law_bag an_law_bag cd_law_bag ct_law_bag), sl_law_bag⟩)
    (c_law_bag : PySem.W.codeIn K cd_law_bag "_law_bag" = true)
    (k_law_bag : PySem.W.keepIn K (.ref f_law_bag) = true)
    (a_law_take : PySem.W.nsIn K mainGlobals "_law_take" = some (some (.ref f_law_take)))
    (l_law_take : K.lookup f_law_take = some ⟨oc_law_take, od_law_take, .func (PySem.W.fnOf "_law_take" "_law_take" (defArgs s_law_take) (defBody s_law_take) (defScope s_law_take) .none kV_law_take dc_law_take pm_law_take an_law_take cd_law_take ct_law_take), sl_law_take⟩)
    (c_law_take : PySem.W.codeIn K cd_law_take "_law_take" = true)
    (k_law_take : PySem.W.keepIn K (.ref f_law_take) = true)
    (a_law_of : PySem.W.nsIn K mainGlobals "_law_of" = some (some (.ref f_law_of)))
    (l_law_of : K.lookup f_law_of = some ⟨oc_law_of, od_law_of, .func (PySem.W.fnOf "_law_of" "_law_of" (defArgs s_law_of) (defBody s_law_of) (defScope s_law_of) .none kV_law_of dc_law_of pm_law_of an_law_of cd_law_of ct_law_of), sl_law_of⟩)
    (c_law_of : PySem.W.codeIn K cd_law_of "_law_of" = true)
    (k_law_of : PySem.W.keepIn K (.ref f_law_of) = true)
    (a_law_thing : PySem.W.nsIn K mainGlobals "_law_thing" = some (some (.ref f_law_thing)))
    (l_law_thing : K.lookup f_law_thing = some ⟨oc_law_thing, od_law_thing, .func (PySem.W.fnOf "_law_thing" "_law_thing" (defArgs s_law_thing) (defBody s_law_thing) (defScope s_law_thing) .none kV_law_thing dc_law_thing pm_law_thing an_law_thing cd_law_thing ct_law_thing), sl_law_thing⟩)
    (c_law_thing : PySem.W.codeIn K cd_law_thing "_law_thing" = true)
    (k_law_thing : PySem.W.keepIn K (.ref f_law_thing) = true)
    (a_law_letters : PySem.W.nsIn K mainGlobals "_law_letters" = some (some (.ref f_law_letters)))
    (l_law_letters : K.lookup f_law_letters = some ⟨oc_law_letters, od_law_letters, .func (PySem.W.fnOf "_law_letters" "_law_letters" (defArgs s_law_letters) (defBody s_law_letters) (defScope s_law_letters) .none kV_law_letters dc_law_letters pm_law_letters an_law_letters cd_law_letters ct_law_letters), sl_law_letters⟩)
    (c_law_letters : PySem.W.codeIn K cd_law_letters "_law_letters" = true)
    (k_law_letters : PySem.W.keepIn K (.ref f_law_letters) = true)
    (a_law_errors : PySem.W.nsIn K mainGlobals "_law_errors" = some (some (.ref f_law_errors)))
    (l_law_errors : K.lookup f_law_errors = some ⟨oc_law_errors, od_law_errors, .func (PySem.W.fnOf "_law_errors" "_law_errors" (defArgs s_law_errors) (defBody s_law_errors) (defScope s_law_errors) .none kV_law_errors dc_law_errors pm_law_errors an_law_errors cd_law_errors ct_law_errors), sl_law_errors⟩)
    (c_law_errors : PySem.W.codeIn K cd_law_errors "_law_errors" = true)
    (k_law_errors : PySem.W.keepIn K (.ref f_law_errors) = true)
    (a_law_kinds : PySem.W.nsIn K mainGlobals "_law_kinds" = some (some (.ref f_law_kinds)))
    (l_law_kinds : K.lookup f_law_kinds = some ⟨oc_law_kinds, od_law_kinds, .func (PySem.W.fnOf "_law_kinds" "_law_kinds" (defArgs s_law_kinds) (defBody s_law_kinds) (defScope s_law_kinds) .none kV_law_kinds dc_law_kinds pm_law_kinds an_law_kinds cd_law_kinds ct_law_kinds), sl_law_kinds⟩)
    (c_law_kinds : PySem.W.codeIn K cd_law_kinds "_law_kinds" = true)
    (k_law_kinds : PySem.W.keepIn K (.ref f_law_kinds) = true)
    (a_law_field : PySem.W.nsIn K mainGlobals "_law_field" = some (some (.ref f_law_field)))
    (l_law_field : K.lookup f_law_field = some ⟨oc_law_field, od_law_field, .func (PySem.W.fnOf "_law_field" "_law_field" (defArgs s_law_field) (defBody s_law_field) (defScope s_law_field) .none kV_law_field dc_law_field pm_law_field an_law_field cd_law_field ct_law_field), sl_law_field⟩)
    (c_law_field : PySem.W.codeIn K cd_law_field "_law_field" = true)
    (k_law_field : PySem.W.keepIn K (.ref f_law_field) = true)
    (a_law_is : PySem.W.nsIn K mainGlobals "_law_is" = some (some (.ref f_law_is)))
    (l_law_is : K.lookup f_law_is = some ⟨oc_law_is, od_law_is, .func (PySem.W.fnOf "_law_is" "_law_is" (defArgs s_law_is) (defBody s_law_is) (defScope s_law_is) .none kV_law_is dc_law_is pm_law_is an_law_is cd_law_is ct_law_is), sl_law_is⟩)
    (c_law_is : PySem.W.codeIn K cd_law_is "_law_is" = true)
    (k_law_is : PySem.W.keepIn K (.ref f_law_is) = true)
    (a_law_under : PySem.W.nsIn K mainGlobals "_law_under" = some (some (.ref f_law_under)))
    (l_law_under : K.lookup f_law_under = some ⟨oc_law_under, od_law_under, .func (PySem.W.fnOf "_law_under" "_law_under" (defArgs s_law_under) (defBody s_law_under) (defScope s_law_under) .none kV_law_under dc_law_under pm_law_under an_law_under cd_law_under ct_law_under), sl_law_under⟩)
    (c_law_under : PySem.W.codeIn K cd_law_under "_law_under" = true)
    (k_law_under : PySem.W.keepIn K (.ref f_law_under) = true)
    (a_law_last_right : PySem.W.nsIn K mainGlobals "_law_last_right" = some (some (.ref f_law_last_right)))
    (l_law_last_right : K.lookup f_law_last_right = some ⟨oc_law_last_right, od_law_last_right, .func (PySem.W.fnOf "_law_last_right" "_law_last_right" (defArgs s_law_last_right) (defBody s_law_last_right) (defScope s_law_last_right) .none kV_law_last_right dc_law_last_right pm_law_last_right an_law_last_right cd_law_last_right ct_law_last_right), sl_law_last_right⟩)
    (c_law_last_right : PySem.W.codeIn K cd_law_last_right "_law_last_right" = true)
    (k_law_last_right : PySem.W.keepIn K (.ref f_law_last_right) = true)
    (a_law : PySem.W.nsIn K mainGlobals "law" = some (some (.ref f_law)))
    (l_law : K.lookup f_law = some ⟨oc_law, od_law, .func (PySem.W.fnOf "law" "law" (defArgs s_law) (defBody s_law) (defScope s_law) .none kV_law dc_law pm_law an_law cd_law ct_law), sl_law⟩)
    (c_law : PySem.W.codeIn K cd_law "law" = true)
    (k_law : PySem.W.keepIn K (.ref f_law) = true)
    (ty_HeirsbackError : PySem.W.typeIn K (.ref C_HeirsbackError) = some (.type "type"))
    (ic_HeirsbackError : PySem.W.isClsIn K C_HeirsbackError = true)
    (sb_HeirsbackError : PySem.W.subIn K (.ref C_HeirsbackError) (.type "BaseException") = some true)
    (ty_BadLibrary : PySem.W.typeIn K (.ref C_BadLibrary) = some (.type "type"))
    (sb_BadLibrary : PySem.W.subIn K (.ref C_BadLibrary) (.type "BaseException") = some true)
    (lk_BadLibrary : K.lookup C_BadLibrary = some (excClassObj nm_BadLibrary q_BadLibrary C_BadLibrary N_BadLibrary bs_BadLibrary [.ref C_HeirsbackError, .type "ValueError", .type "Exception", .type "BaseException", .type "object"] true sn_BadLibrary sub_BadLibrary ab_BadLibrary col_BadLibrary dd_BadLibrary k0_BadLibrary k1_BadLibrary k2_BadLibrary k3_BadLibrary k5_BadLibrary "ValueError.__new__"))
    (sa_BadLibrary : PySem.W.findIn K (.ref C_BadLibrary) "__setattr__" = some (some (.builtin "object.__setattr__")))
    (kc_BadLibrary : PySem.W.keepIn K (.ref C_BadLibrary) = true)
    (xt_BadLibrary : PySem.W.typeIn K (.ref f_BadLibrary_init) = some (.type "function"))
    (ga_BadLibrary : PySem.W.findIn K (.ref C_BadLibrary) "__getattribute__" = some (some (.builtin "BaseException.__getattribute__")))
    (gg_BadLibrary : PySem.W.findIn K (.ref C_BadLibrary) "__getattr__" = some none)
    (hd_BadLibrary : PySem.W.hasDictIn K C_BadLibrary = true)
    (hc_BadLibrary : PySem.W.findIn K (.ref C_BadLibrary) "__class__" = some (some (.builtin "object.__class__")))
    (mo_BadLibrary : PySem.W.mroIn K C_BadLibrary (.type "object") = some true)
    (no_BadLibrary_at : PySem.W.findIn K (.ref C_BadLibrary) "at" = some none)
    (ty_BadWorld : PySem.W.typeIn K (.ref C_BadWorld) = some (.type "type"))
    (sb_BadWorld : PySem.W.subIn K (.ref C_BadWorld) (.type "BaseException") = some true)
    (lk_BadWorld : K.lookup C_BadWorld = some (excClassObj nm_BadWorld q_BadWorld C_BadWorld N_BadWorld bs_BadWorld [.ref C_HeirsbackError, .type "ValueError", .type "Exception", .type "BaseException", .type "object"] true sn_BadWorld sub_BadWorld ab_BadWorld col_BadWorld dd_BadWorld k0_BadWorld k1_BadWorld k2_BadWorld k3_BadWorld k5_BadWorld "ValueError.__new__"))
    (sa_BadWorld : PySem.W.findIn K (.ref C_BadWorld) "__setattr__" = some (some (.builtin "object.__setattr__")))
    (kc_BadWorld : PySem.W.keepIn K (.ref C_BadWorld) = true)
    (xt_BadWorld : PySem.W.typeIn K (.ref f_BadWorld_init) = some (.type "function"))
    (ga_BadWorld : PySem.W.findIn K (.ref C_BadWorld) "__getattribute__" = some (some (.builtin "BaseException.__getattribute__")))
    (gg_BadWorld : PySem.W.findIn K (.ref C_BadWorld) "__getattr__" = some none)
    (hd_BadWorld : PySem.W.hasDictIn K C_BadWorld = true)
    (hc_BadWorld : PySem.W.findIn K (.ref C_BadWorld) "__class__" = some (some (.builtin "object.__class__")))
    (mo_BadWorld : PySem.W.mroIn K C_BadWorld (.type "object") = some true)
    (no_BadWorld_at : PySem.W.findIn K (.ref C_BadWorld) "at" = some none)
    (ty_BadValue : PySem.W.typeIn K (.ref C_BadValue) = some (.type "type"))
    (sb_BadValue : PySem.W.subIn K (.ref C_BadValue) (.type "BaseException") = some true)
    (lk_BadValue : K.lookup C_BadValue = some (excClassObj nm_BadValue q_BadValue C_BadValue N_BadValue bs_BadValue [.ref C_HeirsbackError, .type "ValueError", .type "Exception", .type "BaseException", .type "object"] true sn_BadValue sub_BadValue ab_BadValue col_BadValue dd_BadValue k0_BadValue k1_BadValue k2_BadValue k3_BadValue k5_BadValue "ValueError.__new__"))
    (sa_BadValue : PySem.W.findIn K (.ref C_BadValue) "__setattr__" = some (some (.builtin "object.__setattr__")))
    (kc_BadValue : PySem.W.keepIn K (.ref C_BadValue) = true)
    (xt_BadValue : PySem.W.typeIn K (.ref f_BadValue_init) = some (.type "function"))
    (ga_BadValue : PySem.W.findIn K (.ref C_BadValue) "__getattribute__" = some (some (.builtin "BaseException.__getattribute__")))
    (gg_BadValue : PySem.W.findIn K (.ref C_BadValue) "__getattr__" = some none)
    (hd_BadValue : PySem.W.hasDictIn K C_BadValue = true)
    (hc_BadValue : PySem.W.findIn K (.ref C_BadValue) "__class__" = some (some (.builtin "object.__class__")))
    (mo_BadValue : PySem.W.mroIn K C_BadValue (.type "object") = some true)
    (no_BadValue_field : PySem.W.findIn K (.ref C_BadValue) "field" = some none)
    (ty_BadExpression : PySem.W.typeIn K (.ref C_BadExpression) = some (.type "type"))
    (sb_BadExpression : PySem.W.subIn K (.ref C_BadExpression) (.type "BaseException") = some true)
    (lk_BadExpression : K.lookup C_BadExpression = some (excClassObj nm_BadExpression q_BadExpression C_BadExpression N_BadExpression bs_BadExpression [.ref C_HeirsbackError, .type "ValueError", .type "Exception", .type "BaseException", .type "object"] true sn_BadExpression sub_BadExpression ab_BadExpression col_BadExpression dd_BadExpression k0_BadExpression k1_BadExpression k2_BadExpression k3_BadExpression k5_BadExpression "ValueError.__new__"))
    (sa_BadExpression : PySem.W.findIn K (.ref C_BadExpression) "__setattr__" = some (some (.builtin "object.__setattr__")))
    (kc_BadExpression : PySem.W.keepIn K (.ref C_BadExpression) = true)
    (xt_BadExpression : PySem.W.typeIn K (.ref f_BadExpression_init) = some (.type "function"))
    (ga_BadExpression : PySem.W.findIn K (.ref C_BadExpression) "__getattribute__" = some (some (.builtin "BaseException.__getattribute__")))
    (gg_BadExpression : PySem.W.findIn K (.ref C_BadExpression) "__getattr__" = some none)
    (hd_BadExpression : PySem.W.hasDictIn K C_BadExpression = true)
    (hc_BadExpression : PySem.W.findIn K (.ref C_BadExpression) "__class__" = some (some (.builtin "object.__class__")))
    (mo_BadExpression : PySem.W.mroIn K C_BadExpression (.type "object") = some true)
    (no_BadExpression_at : PySem.W.findIn K (.ref C_BadExpression) "at" = some none)
    (ty_BadFamily : PySem.W.typeIn K (.ref C_BadFamily) = some (.type "type"))
    (sb_BadFamily : PySem.W.subIn K (.ref C_BadFamily) (.type "BaseException") = some true)
    (lk_BadFamily : K.lookup C_BadFamily = some (excClassObj nm_BadFamily q_BadFamily C_BadFamily N_BadFamily bs_BadFamily [.ref C_HeirsbackError, .type "ValueError", .type "Exception", .type "BaseException", .type "object"] true sn_BadFamily sub_BadFamily ab_BadFamily col_BadFamily dd_BadFamily k0_BadFamily k1_BadFamily k2_BadFamily k3_BadFamily k5_BadFamily "ValueError.__new__"))
    (sa_BadFamily : PySem.W.findIn K (.ref C_BadFamily) "__setattr__" = some (some (.builtin "object.__setattr__")))
    (kc_BadFamily : PySem.W.keepIn K (.ref C_BadFamily) = true)
    (xt_BadFamily : PySem.W.typeIn K (.ref f_BadFamily_init) = some (.type "function"))
    (ga_BadFamily : PySem.W.findIn K (.ref C_BadFamily) "__getattribute__" = some (some (.builtin "BaseException.__getattribute__")))
    (gg_BadFamily : PySem.W.findIn K (.ref C_BadFamily) "__getattr__" = some none)
    (hd_BadFamily : PySem.W.hasDictIn K C_BadFamily = true)
    (hc_BadFamily : PySem.W.findIn K (.ref C_BadFamily) "__class__" = some (some (.builtin "object.__class__")))
    (mo_BadFamily : PySem.W.mroIn K C_BadFamily (.type "object") = some true)
    (no_BadFamily_word : PySem.W.findIn K (.ref C_BadFamily) "word" = some none)
    (ty_BadVirtue : PySem.W.typeIn K (.ref C_BadVirtue) = some (.type "type"))
    (sb_BadVirtue : PySem.W.subIn K (.ref C_BadVirtue) (.type "BaseException") = some true)
    (lk_BadVirtue : K.lookup C_BadVirtue = some (excClassObj nm_BadVirtue q_BadVirtue C_BadVirtue N_BadVirtue bs_BadVirtue [.ref C_HeirsbackError, .type "ValueError", .type "Exception", .type "BaseException", .type "object"] true sn_BadVirtue sub_BadVirtue ab_BadVirtue col_BadVirtue dd_BadVirtue k0_BadVirtue k1_BadVirtue k2_BadVirtue k3_BadVirtue k5_BadVirtue "ValueError.__new__"))
    (sa_BadVirtue : PySem.W.findIn K (.ref C_BadVirtue) "__setattr__" = some (some (.builtin "object.__setattr__")))
    (kc_BadVirtue : PySem.W.keepIn K (.ref C_BadVirtue) = true)
    (xt_BadVirtue : PySem.W.typeIn K (.ref f_BadVirtue_init) = some (.type "function"))
    (ga_BadVirtue : PySem.W.findIn K (.ref C_BadVirtue) "__getattribute__" = some (some (.builtin "BaseException.__getattribute__")))
    (gg_BadVirtue : PySem.W.findIn K (.ref C_BadVirtue) "__getattr__" = some none)
    (hd_BadVirtue : PySem.W.hasDictIn K C_BadVirtue = true)
    (hc_BadVirtue : PySem.W.findIn K (.ref C_BadVirtue) "__class__" = some (some (.builtin "object.__class__")))
    (mo_BadVirtue : PySem.W.mroIn K C_BadVirtue (.type "object") = some true)
    (no_BadVirtue_word : PySem.W.findIn K (.ref C_BadVirtue) "word" = some none)
    (ty_BadMaker : PySem.W.typeIn K (.ref C_BadMaker) = some (.type "type"))
    (sb_BadMaker : PySem.W.subIn K (.ref C_BadMaker) (.type "BaseException") = some true)
    (lk_BadMaker : K.lookup C_BadMaker = some (excClassObj nm_BadMaker q_BadMaker C_BadMaker N_BadMaker bs_BadMaker [.ref C_HeirsbackError, .type "ValueError", .type "Exception", .type "BaseException", .type "object"] true sn_BadMaker sub_BadMaker ab_BadMaker col_BadMaker dd_BadMaker k0_BadMaker k1_BadMaker k2_BadMaker k3_BadMaker k5_BadMaker "ValueError.__new__"))
    (sa_BadMaker : PySem.W.findIn K (.ref C_BadMaker) "__setattr__" = some (some (.builtin "object.__setattr__")))
    (kc_BadMaker : PySem.W.keepIn K (.ref C_BadMaker) = true)
    (xt_BadMaker : PySem.W.typeIn K (.ref f_BadMaker_init) = some (.type "function"))
    (ga_BadMaker : PySem.W.findIn K (.ref C_BadMaker) "__getattribute__" = some (some (.builtin "BaseException.__getattribute__")))
    (gg_BadMaker : PySem.W.findIn K (.ref C_BadMaker) "__getattr__" = some none)
    (hd_BadMaker : PySem.W.hasDictIn K C_BadMaker = true)
    (hc_BadMaker : PySem.W.findIn K (.ref C_BadMaker) "__class__" = some (some (.builtin "object.__class__")))
    (mo_BadMaker : PySem.W.mroIn K C_BadMaker (.type "object") = some true)
    (no_BadMaker_maker : PySem.W.findIn K (.ref C_BadMaker) "maker" = some none)
    (ty_NoClass : PySem.W.typeIn K (.ref C_NoClass) = some (.type "type"))
    (sb_NoClass : PySem.W.subIn K (.ref C_NoClass) (.type "BaseException") = some true)
    (lk_NoClass : K.lookup C_NoClass = some (excClassObj nm_NoClass q_NoClass C_NoClass N_NoClass bs_NoClass [.ref C_HeirsbackError, .type "ValueError", .type "Exception", .type "BaseException", .type "object"] true sn_NoClass sub_NoClass ab_NoClass col_NoClass dd_NoClass k0_NoClass k1_NoClass k2_NoClass k3_NoClass k5_NoClass "ValueError.__new__"))
    (sa_NoClass : PySem.W.findIn K (.ref C_NoClass) "__setattr__" = some (some (.builtin "object.__setattr__")))
    (kc_NoClass : PySem.W.keepIn K (.ref C_NoClass) = true)
    (xt_NoClass : PySem.W.typeIn K (.ref f_NoClass_init) = some (.type "function"))
    (ga_NoClass : PySem.W.findIn K (.ref C_NoClass) "__getattribute__" = some (some (.builtin "BaseException.__getattribute__")))
    (gg_NoClass : PySem.W.findIn K (.ref C_NoClass) "__getattr__" = some none)
    (hd_NoClass : PySem.W.hasDictIn K C_NoClass = true)
    (hc_NoClass : PySem.W.findIn K (.ref C_NoClass) "__class__" = some (some (.builtin "object.__class__")))
    (mo_NoClass : PySem.W.mroIn K C_NoClass (.type "object") = some true)
    (no_NoClass_name : PySem.W.findIn K (.ref C_NoClass) "name" = some none)
    (ty_NoSign : PySem.W.typeIn K (.ref C_NoSign) = some (.type "type"))
    (sb_NoSign : PySem.W.subIn K (.ref C_NoSign) (.type "BaseException") = some true)
    (lk_NoSign : K.lookup C_NoSign = some (excClassObj nm_NoSign q_NoSign C_NoSign N_NoSign bs_NoSign [.ref C_HeirsbackError, .type "ValueError", .type "Exception", .type "BaseException", .type "object"] true sn_NoSign sub_NoSign ab_NoSign col_NoSign dd_NoSign k0_NoSign k1_NoSign k2_NoSign k3_NoSign k5_NoSign "ValueError.__new__"))
    (sa_NoSign : PySem.W.findIn K (.ref C_NoSign) "__setattr__" = some (some (.builtin "object.__setattr__")))
    (kc_NoSign : PySem.W.keepIn K (.ref C_NoSign) = true)
    (xt_NoSign : PySem.W.typeIn K (.ref f_NoSign_init) = some (.type "function"))
    (ga_NoSign : PySem.W.findIn K (.ref C_NoSign) "__getattribute__" = some (some (.builtin "BaseException.__getattribute__")))
    (gg_NoSign : PySem.W.findIn K (.ref C_NoSign) "__getattr__" = some none)
    (hd_NoSign : PySem.W.hasDictIn K C_NoSign = true)
    (hc_NoSign : PySem.W.findIn K (.ref C_NoSign) "__class__" = some (some (.builtin "object.__class__")))
    (mo_NoSign : PySem.W.mroIn K C_NoSign (.type "object") = some true)
    (no_NoSign_sign : PySem.W.findIn K (.ref C_NoSign) "sign" = some none)
    (ty_TooMany : PySem.W.typeIn K (.ref C_TooMany) = some (.type "type"))
    (sb_TooMany : PySem.W.subIn K (.ref C_TooMany) (.type "BaseException") = some true)
    (lk_TooMany : K.lookup C_TooMany = some (excClassObj nm_TooMany q_TooMany C_TooMany N_TooMany bs_TooMany [.ref C_HeirsbackError, .type "ValueError", .type "Exception", .type "BaseException", .type "object"] true sn_TooMany sub_TooMany ab_TooMany col_TooMany dd_TooMany k0_TooMany k1_TooMany k2_TooMany k3_TooMany k5_TooMany "ValueError.__new__"))
    (sa_TooMany : PySem.W.findIn K (.ref C_TooMany) "__setattr__" = some (some (.builtin "object.__setattr__")))
    (kc_TooMany : PySem.W.keepIn K (.ref C_TooMany) = true)
    (xt_TooMany : PySem.W.typeIn K (.ref f_TooMany_init) = some (.type "function"))
    (ga_TooMany : PySem.W.findIn K (.ref C_TooMany) "__getattribute__" = some (some (.builtin "BaseException.__getattribute__")))
    (gg_TooMany : PySem.W.findIn K (.ref C_TooMany) "__getattr__" = some none)
    (hd_TooMany : PySem.W.hasDictIn K C_TooMany = true)
    (hc_TooMany : PySem.W.findIn K (.ref C_TooMany) "__class__" = some (some (.builtin "object.__class__")))
    (mo_TooMany : PySem.W.mroIn K C_TooMany (.type "object") = some true)
    (no_TooMany_what : PySem.W.findIn K (.ref C_TooMany) "what" = some none)
    (ty_Unlike : PySem.W.typeIn K (.ref C_Unlike) = some (.type "type"))
    (sb_Unlike : PySem.W.subIn K (.ref C_Unlike) (.type "BaseException") = some true)
    (lk_Unlike : K.lookup C_Unlike = some (excClassObj nm_Unlike q_Unlike C_Unlike N_Unlike bs_Unlike [.ref C_HeirsbackError, .type "ValueError", .type "Exception", .type "BaseException", .type "object"] true sn_Unlike sub_Unlike ab_Unlike col_Unlike dd_Unlike k0_Unlike k1_Unlike k2_Unlike k3_Unlike k5_Unlike "ValueError.__new__"))
    (sa_Unlike : PySem.W.findIn K (.ref C_Unlike) "__setattr__" = some (some (.builtin "object.__setattr__")))
    (kc_Unlike : PySem.W.keepIn K (.ref C_Unlike) = true)
    (xt_Unlike : PySem.W.typeIn K (.ref f_Unlike_init) = some (.type "function"))
    (ga_Unlike : PySem.W.findIn K (.ref C_Unlike) "__getattribute__" = some (some (.builtin "BaseException.__getattribute__")))
    (gg_Unlike : PySem.W.findIn K (.ref C_Unlike) "__getattr__" = some none)
    (hd_Unlike : PySem.W.hasDictIn K C_Unlike = true)
    (hc_Unlike : PySem.W.findIn K (.ref C_Unlike) "__class__" = some (some (.builtin "object.__class__")))
    (mo_Unlike : PySem.W.mroIn K C_Unlike (.type "object") = some true)
    (no_Unlike_at : PySem.W.findIn K (.ref C_Unlike) "at" = some none)
    (ty_Surplus : PySem.W.typeIn K (.ref C_Surplus) = some (.type "type"))
    (sb_Surplus : PySem.W.subIn K (.ref C_Surplus) (.type "BaseException") = some true)
    (lk_Surplus : K.lookup C_Surplus = some (excClassObj nm_Surplus q_Surplus C_Surplus N_Surplus bs_Surplus [.type "LookupError", .type "Exception", .type "BaseException", .type "object"] true sn_Surplus sub_Surplus ab_Surplus col_Surplus dd_Surplus k0_Surplus k1_Surplus k2_Surplus k3_Surplus k5_Surplus "LookupError.__new__"))
    (sa_Surplus : PySem.W.findIn K (.ref C_Surplus) "__setattr__" = some (some (.builtin "object.__setattr__")))
    (kc_Surplus : PySem.W.keepIn K (.ref C_Surplus) = true)
    (xt_Surplus : PySem.W.typeIn K (.ref f_Surplus_init) = some (.type "function"))
    (ga_Surplus : PySem.W.findIn K (.ref C_Surplus) "__getattribute__" = some (some (.builtin "BaseException.__getattribute__")))
    (gg_Surplus : PySem.W.findIn K (.ref C_Surplus) "__getattr__" = some none)
    (hd_Surplus : PySem.W.hasDictIn K C_Surplus = true)
    (hc_Surplus : PySem.W.findIn K (.ref C_Surplus) "__class__" = some (some (.builtin "object.__class__")))
    (mo_Surplus : PySem.W.mroIn K C_Surplus (.type "object") = some true)
    (no_Surplus_name : PySem.W.findIn K (.ref C_Surplus) "name" = some none)
    (no_Surplus_many : PySem.W.findIn K (.ref C_Surplus) "many" = some none)
    (ty_Lacking : PySem.W.typeIn K (.ref C_Lacking) = some (.type "type"))
    (sb_Lacking : PySem.W.subIn K (.ref C_Lacking) (.type "BaseException") = some true)
    (lk_Lacking : K.lookup C_Lacking = some (excClassObj nm_Lacking q_Lacking C_Lacking N_Lacking bs_Lacking [.type "LookupError", .type "Exception", .type "BaseException", .type "object"] true sn_Lacking sub_Lacking ab_Lacking col_Lacking dd_Lacking k0_Lacking k1_Lacking k2_Lacking k3_Lacking k5_Lacking "LookupError.__new__"))
    (sa_Lacking : PySem.W.findIn K (.ref C_Lacking) "__setattr__" = some (some (.builtin "object.__setattr__")))
    (kc_Lacking : PySem.W.keepIn K (.ref C_Lacking) = true)
    (xt_Lacking : PySem.W.typeIn K (.ref f_Lacking_init) = some (.type "function"))
    (ga_Lacking : PySem.W.findIn K (.ref C_Lacking) "__getattribute__" = some (some (.builtin "BaseException.__getattribute__")))
    (gg_Lacking : PySem.W.findIn K (.ref C_Lacking) "__getattr__" = some none)
    (hd_Lacking : PySem.W.hasDictIn K C_Lacking = true)
    (hc_Lacking : PySem.W.findIn K (.ref C_Lacking) "__class__" = some (some (.builtin "object.__class__")))
    (mo_Lacking : PySem.W.mroIn K C_Lacking (.type "object") = some true)
    (no_Lacking_name : PySem.W.findIn K (.ref C_Lacking) "name" = some none)
    (no_Lacking_field : PySem.W.findIn K (.ref C_Lacking) "field" = some none)
    (ty_Unknown : PySem.W.typeIn K (.ref C_Unknown) = some (.type "type"))
    (sb_Unknown : PySem.W.subIn K (.ref C_Unknown) (.type "BaseException") = some true)
    (lk_Unknown : K.lookup C_Unknown = some (excClassObj nm_Unknown q_Unknown C_Unknown N_Unknown bs_Unknown [.type "LookupError", .type "Exception", .type "BaseException", .type "object"] true sn_Unknown sub_Unknown ab_Unknown col_Unknown dd_Unknown k0_Unknown k1_Unknown k2_Unknown k3_Unknown k5_Unknown "LookupError.__new__"))
    (sa_Unknown : PySem.W.findIn K (.ref C_Unknown) "__setattr__" = some (some (.builtin "object.__setattr__")))
    (kc_Unknown : PySem.W.keepIn K (.ref C_Unknown) = true)
    (xt_Unknown : PySem.W.typeIn K (.ref f_Unknown_init) = some (.type "function"))
    (ga_Unknown : PySem.W.findIn K (.ref C_Unknown) "__getattribute__" = some (some (.builtin "BaseException.__getattribute__")))
    (gg_Unknown : PySem.W.findIn K (.ref C_Unknown) "__getattr__" = some none)
    (hd_Unknown : PySem.W.hasDictIn K C_Unknown = true)
    (hc_Unknown : PySem.W.findIn K (.ref C_Unknown) "__class__" = some (some (.builtin "object.__class__")))
    (mo_Unknown : PySem.W.mroIn K C_Unknown (.type "object") = some true)
    (no_Unknown_name : PySem.W.findIn K (.ref C_Unknown) "name" = some none)
    (no_Unknown_field : PySem.W.findIn K (.ref C_Unknown) "field" = some none)
    (ty_Failed : PySem.W.typeIn K (.ref C_Failed) = some (.type "type"))
    (sb_Failed : PySem.W.subIn K (.ref C_Failed) (.type "BaseException") = some true)
    (lk_Failed : K.lookup C_Failed = some (excClassObj nm_Failed q_Failed C_Failed N_Failed bs_Failed [.type "LookupError", .type "Exception", .type "BaseException", .type "object"] true sn_Failed sub_Failed ab_Failed col_Failed dd_Failed k0_Failed k1_Failed k2_Failed k3_Failed k5_Failed "LookupError.__new__"))
    (sa_Failed : PySem.W.findIn K (.ref C_Failed) "__setattr__" = some (some (.builtin "object.__setattr__")))
    (kc_Failed : PySem.W.keepIn K (.ref C_Failed) = true)
    (xt_Failed : PySem.W.typeIn K (.ref f_Failed_init) = some (.type "function"))
    (ga_Failed : PySem.W.findIn K (.ref C_Failed) "__getattribute__" = some (some (.builtin "BaseException.__getattribute__")))
    (gg_Failed : PySem.W.findIn K (.ref C_Failed) "__getattr__" = some none)
    (hd_Failed : PySem.W.hasDictIn K C_Failed = true)
    (hc_Failed : PySem.W.findIn K (.ref C_Failed) "__class__" = some (some (.builtin "object.__class__")))
    (mo_Failed : PySem.W.mroIn K C_Failed (.type "object") = some true)
    (no_Failed_at : PySem.W.findIn K (.ref C_Failed) "at" = some none)
    (no_Failed_reason : PySem.W.findIn K (.ref C_Failed) "reason" = some none)
    (hnC : PySem.W.specialIn K (.builtin "object.__class__") "__get__" = some (some (.builtin "getset_descriptor.__get__")))
    (htC : PySem.W.takesIn K (.builtin "object.__class__") = some true)
    (xhd_hb : PySem.W.hasDictIn K C_HeirsbackError = true)
    (rv_nd : ([C_BadLibrary, C_BadWorld, C_BadValue, C_BadExpression, C_BadFamily, C_BadVirtue, C_BadMaker, C_NoClass, C_NoSign, C_TooMany, C_Unlike, C_Surplus, C_Lacking, C_Unknown, C_Failed, C_HeirsbackError] : List Addr).Nodup)
    (n_IndexError : PySem.W.nsIn K mainGlobals "IndexError" = some none)
    (n_KeyError : PySem.W.nsIn K mainGlobals "KeyError" = some none)
    (n_LookupError : PySem.W.nsIn K mainGlobals "LookupError" = some none)
    (n_ValueError : PySem.W.nsIn K mainGlobals "ValueError" = some none)
    (n_abs : PySem.W.nsIn K mainGlobals "abs" = some none)
    (n_bool : PySem.W.nsIn K mainGlobals "bool" = some none)
    (n_enumerate : PySem.W.nsIn K mainGlobals "enumerate" = some none)
    (n_int : PySem.W.nsIn K mainGlobals "int" = some none)
    (n_isinstance : PySem.W.nsIn K mainGlobals "isinstance" = some none)
    (n_len : PySem.W.nsIn K mainGlobals "len" = some none)
    (n_list : PySem.W.nsIn K mainGlobals "list" = some none)
    (n_max : PySem.W.nsIn K mainGlobals "max" = some none)
    (n_min : PySem.W.nsIn K mainGlobals "min" = some none)
    (n_range : PySem.W.nsIn K mainGlobals "range" = some none)
    (n_str : PySem.W.nsIn K mainGlobals "str" = some none) :
    ∃ fd : FuncData, (∀ (s : Shared) (v : Value), BindsTo s fd ⟨[v], []⟩ [("_law_script", v)]) ∧ ∀ base : Heap, K.In base → base.Ns mainGlobals mg → FnOk l.prog w K mg base CX0 4 fa fd ["_law_script"] (sp_law K) := by
  have e := hfa.symm.trans (PySem.W.mg_of X G a_law)
  cases e
  have T : Txt K mg ⟨f_BadLibrary_init, (PySem.W.fnOf "__init__" "BadLibrary.__init__" (defArgs s_BadLibrary_init) (defBody s_BadLibrary_init) (defScope s_BadLibrary_init) .none kV_BadLibrary_init dc_BadLibrary_init pm_BadLibrary_init an_BadLibrary_init cd_BadLibrary_init ct_BadLibrary_init), f_BadWorld_init, (PySem.W.fnOf "__init__" "BadWorld.__init__" (defArgs s_BadWorld_init) (defBody s_BadWorld_init) (defScope s_BadWorld_init) .none kV_BadWorld_init dc_BadWorld_init pm_BadWorld_init an_BadWorld_init cd_BadWorld_init ct_BadWorld_init), f_BadValue_init, (PySem.W.fnOf "__init__" "BadValue.__init__" (defArgs s_BadValue_init) (defBody s_BadValue_init) (defScope s_BadValue_init) .none kV_BadValue_init dc_BadValue_init pm_BadValue_init an_BadValue_init cd_BadValue_init ct_BadValue_init), f_BadExpression_init, (PySem.W.fnOf "__init__" "BadExpression.__init__" (defArgs s_BadExpression_init) (defBody s_BadExpression_init) (defScope s_BadExpression_init) .none kV_BadExpression_init dc_BadExpression_init pm_BadExpression_init an_BadExpression_init cd_BadExpression_init ct_BadExpression_init), f_BadFamily_init, (PySem.W.fnOf "__init__" "BadFamily.__init__" (defArgs s_BadFamily_init) (defBody s_BadFamily_init) (defScope s_BadFamily_init) .none kV_BadFamily_init dc_BadFamily_init pm_BadFamily_init an_BadFamily_init cd_BadFamily_init ct_BadFamily_init), f_BadVirtue_init, (PySem.W.fnOf "__init__" "BadVirtue.__init__" (defArgs s_BadVirtue_init) (defBody s_BadVirtue_init) (defScope s_BadVirtue_init) .none kV_BadVirtue_init dc_BadVirtue_init pm_BadVirtue_init an_BadVirtue_init cd_BadVirtue_init ct_BadVirtue_init), f_BadMaker_init, (PySem.W.fnOf "__init__" "BadMaker.__init__" (defArgs s_BadMaker_init) (defBody s_BadMaker_init) (defScope s_BadMaker_init) .none kV_BadMaker_init dc_BadMaker_init pm_BadMaker_init an_BadMaker_init cd_BadMaker_init ct_BadMaker_init), f_NoClass_init, (PySem.W.fnOf "__init__" "NoClass.__init__" (defArgs s_NoClass_init) (defBody s_NoClass_init) (defScope s_NoClass_init) .none kV_NoClass_init dc_NoClass_init pm_NoClass_init an_NoClass_init cd_NoClass_init ct_NoClass_init), f_NoSign_init, (PySem.W.fnOf "__init__" "NoSign.__init__" (defArgs s_NoSign_init) (defBody s_NoSign_init) (defScope s_NoSign_init) .none kV_NoSign_init dc_NoSign_init pm_NoSign_init an_NoSign_init cd_NoSign_init ct_NoSign_init), f_TooMany_init, (PySem.W.fnOf "__init__" "TooMany.__init__" (defArgs s_TooMany_init) (defBody s_TooMany_init) (defScope s_TooMany_init) .none kV_TooMany_init dc_TooMany_init pm_TooMany_init an_TooMany_init cd_TooMany_init ct_TooMany_init), f_Unlike_init, (PySem.W.fnOf "__init__" "Unlike.__init__" (defArgs s_Unlike_init) (defBody s_Unlike_init) (defScope s_Unlike_init) .none kV_Unlike_init dc_Unlike_init pm_Unlike_init an_Unlike_init cd_Unlike_init ct_Unlike_init), f_Surplus_init, (PySem.W.fnOf "__init__" "Surplus.__init__" (defArgs s_Surplus_init) (defBody s_Surplus_init) (defScope s_Surplus_init) .none kV_Surplus_init dc_Surplus_init pm_Surplus_init an_Surplus_init cd_Surplus_init ct_Surplus_init), f_Lacking_init, (PySem.W.fnOf "__init__" "Lacking.__init__" (defArgs s_Lacking_init) (defBody s_Lacking_init) (defScope s_Lacking_init) .none kV_Lacking_init dc_Lacking_init pm_Lacking_init an_Lacking_init cd_Lacking_init ct_Lacking_init), f_Unknown_init, (PySem.W.fnOf "__init__" "Unknown.__init__" (defArgs s_Unknown_init) (defBody s_Unknown_init) (defScope s_Unknown_init) .none kV_Unknown_init dc_Unknown_init pm_Unknown_init an_Unknown_init cd_Unknown_init ct_Unknown_init), f_Failed_init, (PySem.W.fnOf "__init__" "Failed.__init__" (defArgs s_Failed_init) (defBody s_Failed_init) (defScope s_Failed_init) .none kV_Failed_init dc_Failed_init pm_Failed_init an_Failed_init cd_Failed_init ct_Failed_init), f_law_bag, (PySem.W.fnOf "_law_bag" "_law_bag" (defArgs s_law_bag) (defBody s_law_bag) (defScope s_law_bag) .none kV_law_bag dc_law_bag pm_law_bag an_law_bag cd_law_bag ct_law_bag), f_law_take, (PySem.W.fnOf "_law_take" "_law_take" (defArgs s_law_take) (defBody s_law_take) (defScope s_law_take) .none kV_law_take dc_law_take pm_law_take an_law_take cd_law_take ct_law_take), f_law_of, (PySem.W.fnOf "_law_of" "_law_of" (defArgs s_law_of) (defBody s_law_of) (defScope s_law_of) .none kV_law_of dc_law_of pm_law_of an_law_of cd_law_of ct_law_of), f_law_thing, (PySem.W.fnOf "_law_thing" "_law_thing" (defArgs s_law_thing) (defBody s_law_thing) (defScope s_law_thing) .none kV_law_thing dc_law_thing pm_law_thing an_law_thing cd_law_thing ct_law_thing), f_law_letters, (PySem.W.fnOf "_law_letters" "_law_letters" (defArgs s_law_letters) (defBody s_law_letters) (defScope s_law_letters) .none kV_law_letters dc_law_letters pm_law_letters an_law_letters cd_law_letters ct_law_letters), f_law_errors, (PySem.W.fnOf "_law_errors" "_law_errors" (defArgs s_law_errors) (defBody s_law_errors) (defScope s_law_errors) .none kV_law_errors dc_law_errors pm_law_errors an_law_errors cd_law_errors ct_law_errors), f_law_kinds, (PySem.W.fnOf "_law_kinds" "_law_kinds" (defArgs s_law_kinds) (defBody s_law_kinds) (defScope s_law_kinds) .none kV_law_kinds dc_law_kinds pm_law_kinds an_law_kinds cd_law_kinds ct_law_kinds), f_law_field, (PySem.W.fnOf "_law_field" "_law_field" (defArgs s_law_field) (defBody s_law_field) (defScope s_law_field) .none kV_law_field dc_law_field pm_law_field an_law_field cd_law_field ct_law_field), f_law_is, (PySem.W.fnOf "_law_is" "_law_is" (defArgs s_law_is) (defBody s_law_is) (defScope s_law_is) .none kV_law_is dc_law_is pm_law_is an_law_is cd_law_is ct_law_is), f_law_under, (PySem.W.fnOf "_law_under" "_law_under" (defArgs s_law_under) (defBody s_law_under) (defScope s_law_under) .none kV_law_under dc_law_under pm_law_under an_law_under cd_law_under ct_law_under), f_law_last_right, (PySem.W.fnOf "_law_last_right" "_law_last_right" (defArgs s_law_last_right) (defBody s_law_last_right) (defScope s_law_last_right) .none kV_law_last_right dc_law_last_right pm_law_last_right an_law_last_right cd_law_last_right ct_law_last_right), fa, (PySem.W.fnOf "law" "law" (defArgs s_law) (defBody s_law) (defScope s_law) .none kV_law dc_law pm_law an_law cd_law ct_law), C_HeirsbackError, C_BadLibrary, C_BadWorld, C_BadValue, C_BadExpression, C_BadFamily, C_BadVirtue, C_BadMaker, C_NoClass, C_NoSign, C_TooMany, C_Unlike, C_Surplus, C_Lacking, C_Unknown, C_Failed⟩ := {
    F_BadLibrary_init := fun_mk (st := s_BadLibrary_init) l_BadLibrary_init c_BadLibrary_init k_BadLibrary_init,
    b_BadLibrary_init := (fun_mk (st := s_BadLibrary_init) l_BadLibrary_init c_BadLibrary_init k_BadLibrary_init).binds (ps := ["self", "at"]) fun _ _ _ _ _ _ us hl => match us, hl with | [_, _], _ => rfl,
    m_BadLibrary_init := ⟨a_BadLibrary_init, i_BadLibrary_init, k_BadLibrary_init⟩,
    F_BadWorld_init := fun_mk (st := s_BadWorld_init) l_BadWorld_init c_BadWorld_init k_BadWorld_init,
    b_BadWorld_init := (fun_mk (st := s_BadWorld_init) l_BadWorld_init c_BadWorld_init k_BadWorld_init).binds (ps := ["self", "at"]) fun _ _ _ _ _ _ us hl => match us, hl with | [_, _], _ => rfl,
    m_BadWorld_init := ⟨a_BadWorld_init, i_BadWorld_init, k_BadWorld_init⟩,
    F_BadValue_init := fun_mk (st := s_BadValue_init) l_BadValue_init c_BadValue_init k_BadValue_init,
    b_BadValue_init := (fun_mk (st := s_BadValue_init) l_BadValue_init c_BadValue_init k_BadValue_init).binds (ps := ["self", "field"]) fun _ _ _ _ _ _ us hl => match us, hl with | [_, _], _ => rfl,
    m_BadValue_init := ⟨a_BadValue_init, i_BadValue_init, k_BadValue_init⟩,
    F_BadExpression_init := fun_mk (st := s_BadExpression_init) l_BadExpression_init c_BadExpression_init k_BadExpression_init,
    b_BadExpression_init := (fun_mk (st := s_BadExpression_init) l_BadExpression_init c_BadExpression_init k_BadExpression_init).binds (ps := ["self", "at"]) fun _ _ _ _ _ _ us hl => match us, hl with | [_, _], _ => rfl,
    m_BadExpression_init := ⟨a_BadExpression_init, i_BadExpression_init, k_BadExpression_init⟩,
    F_BadFamily_init := fun_mk (st := s_BadFamily_init) l_BadFamily_init c_BadFamily_init k_BadFamily_init,
    b_BadFamily_init := (fun_mk (st := s_BadFamily_init) l_BadFamily_init c_BadFamily_init k_BadFamily_init).binds (ps := ["self", "word"]) fun _ _ _ _ _ _ us hl => match us, hl with | [_, _], _ => rfl,
    m_BadFamily_init := ⟨a_BadFamily_init, i_BadFamily_init, k_BadFamily_init⟩,
    F_BadVirtue_init := fun_mk (st := s_BadVirtue_init) l_BadVirtue_init c_BadVirtue_init k_BadVirtue_init,
    b_BadVirtue_init := (fun_mk (st := s_BadVirtue_init) l_BadVirtue_init c_BadVirtue_init k_BadVirtue_init).binds (ps := ["self", "word"]) fun _ _ _ _ _ _ us hl => match us, hl with | [_, _], _ => rfl,
    m_BadVirtue_init := ⟨a_BadVirtue_init, i_BadVirtue_init, k_BadVirtue_init⟩,
    F_BadMaker_init := fun_mk (st := s_BadMaker_init) l_BadMaker_init c_BadMaker_init k_BadMaker_init,
    b_BadMaker_init := (fun_mk (st := s_BadMaker_init) l_BadMaker_init c_BadMaker_init k_BadMaker_init).binds (ps := ["self", "maker"]) fun _ _ _ _ _ _ us hl => match us, hl with | [_, _], _ => rfl,
    m_BadMaker_init := ⟨a_BadMaker_init, i_BadMaker_init, k_BadMaker_init⟩,
    F_NoClass_init := fun_mk (st := s_NoClass_init) l_NoClass_init c_NoClass_init k_NoClass_init,
    b_NoClass_init := (fun_mk (st := s_NoClass_init) l_NoClass_init c_NoClass_init k_NoClass_init).binds (ps := ["self", "name"]) fun _ _ _ _ _ _ us hl => match us, hl with | [_, _], _ => rfl,
    m_NoClass_init := ⟨a_NoClass_init, i_NoClass_init, k_NoClass_init⟩,
    F_NoSign_init := fun_mk (st := s_NoSign_init) l_NoSign_init c_NoSign_init k_NoSign_init,
    b_NoSign_init := (fun_mk (st := s_NoSign_init) l_NoSign_init c_NoSign_init k_NoSign_init).binds (ps := ["self", "sign"]) fun _ _ _ _ _ _ us hl => match us, hl with | [_, _], _ => rfl,
    m_NoSign_init := ⟨a_NoSign_init, i_NoSign_init, k_NoSign_init⟩,
    F_TooMany_init := fun_mk (st := s_TooMany_init) l_TooMany_init c_TooMany_init k_TooMany_init,
    b_TooMany_init := (fun_mk (st := s_TooMany_init) l_TooMany_init c_TooMany_init k_TooMany_init).binds (ps := ["self", "what"]) fun _ _ _ _ _ _ us hl => match us, hl with | [_, _], _ => rfl,
    m_TooMany_init := ⟨a_TooMany_init, i_TooMany_init, k_TooMany_init⟩,
    F_Unlike_init := fun_mk (st := s_Unlike_init) l_Unlike_init c_Unlike_init k_Unlike_init,
    b_Unlike_init := (fun_mk (st := s_Unlike_init) l_Unlike_init c_Unlike_init k_Unlike_init).binds (ps := ["self", "at"]) fun _ _ _ _ _ _ us hl => match us, hl with | [_, _], _ => rfl,
    m_Unlike_init := ⟨a_Unlike_init, i_Unlike_init, k_Unlike_init⟩,
    F_Surplus_init := fun_mk (st := s_Surplus_init) l_Surplus_init c_Surplus_init k_Surplus_init,
    b_Surplus_init := (fun_mk (st := s_Surplus_init) l_Surplus_init c_Surplus_init k_Surplus_init).binds (ps := ["self", "name", "many"]) fun _ _ _ _ _ _ us hl => match us, hl with | [_, _, _], _ => rfl,
    m_Surplus_init := ⟨a_Surplus_init, i_Surplus_init, k_Surplus_init⟩,
    F_Lacking_init := fun_mk (st := s_Lacking_init) l_Lacking_init c_Lacking_init k_Lacking_init,
    b_Lacking_init := (fun_mk (st := s_Lacking_init) l_Lacking_init c_Lacking_init k_Lacking_init).binds (ps := ["self", "name", "field"]) fun _ _ _ _ _ _ us hl => match us, hl with | [_, _, _], _ => rfl,
    m_Lacking_init := ⟨a_Lacking_init, i_Lacking_init, k_Lacking_init⟩,
    F_Unknown_init := fun_mk (st := s_Unknown_init) l_Unknown_init c_Unknown_init k_Unknown_init,
    b_Unknown_init := (fun_mk (st := s_Unknown_init) l_Unknown_init c_Unknown_init k_Unknown_init).binds (ps := ["self", "name", "field"]) fun _ _ _ _ _ _ us hl => match us, hl with | [_, _, _], _ => rfl,
    m_Unknown_init := ⟨a_Unknown_init, i_Unknown_init, k_Unknown_init⟩,
    F_Failed_init := fun_mk (st := s_Failed_init) l_Failed_init c_Failed_init k_Failed_init,
    b_Failed_init := (fun_mk (st := s_Failed_init) l_Failed_init c_Failed_init k_Failed_init).binds (ps := ["self", "at", "reason"]) fun _ _ _ _ _ _ us hl => match us, hl with | [_, _, _], _ => rfl,
    m_Failed_init := ⟨a_Failed_init, i_Failed_init, k_Failed_init⟩,
    F_law_bag := fun_mk (st := s_law_bag) l_law_bag c_law_bag k_law_bag,
    b_law_bag := (fun_mk (st := s_law_bag) l_law_bag c_law_bag k_law_bag).binds (ps := ["_law_script", "_law_at"]) fun _ _ _ _ _ _ us hl => match us, hl with | [_, _], _ => rfl,
    g_law_bag := PySem.W.mg_of X G a_law_bag,
    F_law_take := fun_mk (st := s_law_take) l_law_take c_law_take k_law_take,
    b_law_take := (fun_mk (st := s_law_take) l_law_take c_law_take k_law_take).binds (ps := ["_law_bag_here", "_law_many"]) fun _ _ _ _ _ _ us hl => match us, hl with | [_, _], _ => rfl,
    g_law_take := PySem.W.mg_of X G a_law_take,
    F_law_of := fun_mk (st := s_law_of) l_law_of c_law_of k_law_of,
    b_law_of := (fun_mk (st := s_law_of) l_law_of c_law_of k_law_of).binds (ps := ["_law_bag_here", "_law_some"]) fun _ _ _ _ _ _ us hl => match us, hl with | [_, _], _ => rfl,
    g_law_of := PySem.W.mg_of X G a_law_of,
    F_law_thing := fun_mk (st := s_law_thing) l_law_thing c_law_thing k_law_thing,
    b_law_thing := (fun_mk (st := s_law_thing) l_law_thing c_law_thing k_law_thing).binds (ps := ["_law_bag_here"]) fun _ _ _ _ _ _ us hl => match us, hl with | [_], _ => rfl,
    g_law_thing := PySem.W.mg_of X G a_law_thing,
    F_law_letters := fun_mk (st := s_law_letters) l_law_letters c_law_letters k_law_letters,
    b_law_letters := (fun_mk (st := s_law_letters) l_law_letters c_law_letters k_law_letters).binds (ps := ["_law_bag_here"]) fun _ _ _ _ _ _ us hl => match us, hl with | [_], _ => rfl,
    g_law_letters := PySem.W.mg_of X G a_law_letters,
    F_law_errors := fun_mk (st := s_law_errors) l_law_errors c_law_errors k_law_errors,
    b_law_errors := (fun_mk (st := s_law_errors) l_law_errors c_law_errors k_law_errors).binds (ps := ["_law_thing_here", "_law_number", "_law_one", "_law_two"]) fun _ _ _ _ _ _ us hl => match us, hl with | [_, _, _, _], _ => rfl,
    g_law_errors := PySem.W.mg_of X G a_law_errors,
    F_law_kinds := fun_mk (st := s_law_kinds) l_law_kinds c_law_kinds k_law_kinds,
    b_law_kinds := (fun_mk (st := s_law_kinds) l_law_kinds c_law_kinds k_law_kinds).binds (ps := ["_law_one"]) fun _ _ _ _ _ _ us hl => match us, hl with | [_], _ => rfl,
    g_law_kinds := PySem.W.mg_of X G a_law_kinds,
    F_law_field := fun_mk (st := s_law_field) l_law_field c_law_field k_law_field,
    b_law_field := (fun_mk (st := s_law_field) l_law_field c_law_field k_law_field).binds (ps := ["_law_one", "_law_word"]) fun _ _ _ _ _ _ us hl => match us, hl with | [_, _], _ => rfl,
    g_law_field := PySem.W.mg_of X G a_law_field,
    F_law_is := fun_mk (st := s_law_is) l_law_is c_law_is k_law_is,
    b_law_is := (fun_mk (st := s_law_is) l_law_is c_law_is k_law_is).binds (ps := ["_law_kept", "_law_given"]) fun _ _ _ _ _ _ us hl => match us, hl with | [_, _], _ => rfl,
    g_law_is := PySem.W.mg_of X G a_law_is,
    F_law_under := fun_mk (st := s_law_under) l_law_under c_law_under k_law_under,
    b_law_under := (fun_mk (st := s_law_under) l_law_under c_law_under k_law_under).binds (ps := ["_law_one"]) fun _ _ _ _ _ _ us hl => match us, hl with | [_], _ => rfl,
    g_law_under := PySem.W.mg_of X G a_law_under,
    F_law_last_right := fun_mk (st := s_law_last_right) l_law_last_right c_law_last_right k_law_last_right,
    b_law_last_right := (fun_mk (st := s_law_last_right) l_law_last_right c_law_last_right k_law_last_right).binds (ps := ["_law_last", "_law_number", "_law_one", "_law_two"]) fun _ _ _ _ _ _ us hl => match us, hl with | [_, _, _, _], _ => rfl,
    g_law_last_right := PySem.W.mg_of X G a_law_last_right,
    F_law := fun_mk (st := s_law) l_law c_law k_law,
    b_law := (fun_mk (st := s_law) l_law c_law k_law).binds (ps := ["_law_script"]) fun _ _ _ _ _ _ us hl => match us, hl with | [_], _ => rfl,
    g_law := PySem.W.mg_of X G a_law,
    g_HeirsbackError := PySem.W.mg_of X G a_C_HeirsbackError,
    ty_HeirsbackError := ty_HeirsbackError,
    ic_HeirsbackError := ic_HeirsbackError,
    sb_HeirsbackError := sb_HeirsbackError,
    g_BadLibrary := PySem.W.mg_of X G a_C_BadLibrary,
    ty_BadLibrary := ty_BadLibrary,
    ox_BadLibrary := ⟨⟨_, _, _, _, _, _, _, _, _, _, _, _, _, _, _, _, lk_BadLibrary, PySem.OexX.mroX_ve rfl⟩, sa_BadLibrary, sb_BadLibrary, ty_BadLibrary, kc_BadLibrary⟩,
    xt_BadLibrary := xt_BadLibrary,
    xf_BadLibrary := ⟨ga_BadLibrary, gg_BadLibrary, sb_BadLibrary, hd_BadLibrary⟩,
    xc_BadLibrary := ⟨ga_BadLibrary, gg_BadLibrary, sb_BadLibrary, hd_BadLibrary, hc_BadLibrary, hnC, htC, mo_BadLibrary⟩,
    me_BadLibrary := (by unfold PySem.W.clsIn; rw [lk_BadLibrary]; rfl),
    no_BadLibrary_at := no_BadLibrary_at,
    g_BadWorld := PySem.W.mg_of X G a_C_BadWorld,
    ty_BadWorld := ty_BadWorld,
    ox_BadWorld := ⟨⟨_, _, _, _, _, _, _, _, _, _, _, _, _, _, _, _, lk_BadWorld, PySem.OexX.mroX_ve rfl⟩, sa_BadWorld, sb_BadWorld, ty_BadWorld, kc_BadWorld⟩,
    xt_BadWorld := xt_BadWorld,
    xf_BadWorld := ⟨ga_BadWorld, gg_BadWorld, sb_BadWorld, hd_BadWorld⟩,
    xc_BadWorld := ⟨ga_BadWorld, gg_BadWorld, sb_BadWorld, hd_BadWorld, hc_BadWorld, hnC, htC, mo_BadWorld⟩,
    me_BadWorld := (by unfold PySem.W.clsIn; rw [lk_BadWorld]; rfl),
    no_BadWorld_at := no_BadWorld_at,
    g_BadValue := PySem.W.mg_of X G a_C_BadValue,
    ty_BadValue := ty_BadValue,
    ox_BadValue := ⟨⟨_, _, _, _, _, _, _, _, _, _, _, _, _, _, _, _, lk_BadValue, PySem.OexX.mroX_ve rfl⟩, sa_BadValue, sb_BadValue, ty_BadValue, kc_BadValue⟩,
    xt_BadValue := xt_BadValue,
    xf_BadValue := ⟨ga_BadValue, gg_BadValue, sb_BadValue, hd_BadValue⟩,
    xc_BadValue := ⟨ga_BadValue, gg_BadValue, sb_BadValue, hd_BadValue, hc_BadValue, hnC, htC, mo_BadValue⟩,
    me_BadValue := (by unfold PySem.W.clsIn; rw [lk_BadValue]; rfl),
    no_BadValue_field := no_BadValue_field,
    g_BadExpression := PySem.W.mg_of X G a_C_BadExpression,
    ty_BadExpression := ty_BadExpression,
    ox_BadExpression := ⟨⟨_, _, _, _, _, _, _, _, _, _, _, _, _, _, _, _, lk_BadExpression, PySem.OexX.mroX_ve rfl⟩, sa_BadExpression, sb_BadExpression, ty_BadExpression, kc_BadExpression⟩,
    xt_BadExpression := xt_BadExpression,
    xf_BadExpression := ⟨ga_BadExpression, gg_BadExpression, sb_BadExpression, hd_BadExpression⟩,
    xc_BadExpression := ⟨ga_BadExpression, gg_BadExpression, sb_BadExpression, hd_BadExpression, hc_BadExpression, hnC, htC, mo_BadExpression⟩,
    me_BadExpression := (by unfold PySem.W.clsIn; rw [lk_BadExpression]; rfl),
    no_BadExpression_at := no_BadExpression_at,
    g_BadFamily := PySem.W.mg_of X G a_C_BadFamily,
    ty_BadFamily := ty_BadFamily,
    ox_BadFamily := ⟨⟨_, _, _, _, _, _, _, _, _, _, _, _, _, _, _, _, lk_BadFamily, PySem.OexX.mroX_ve rfl⟩, sa_BadFamily, sb_BadFamily, ty_BadFamily, kc_BadFamily⟩,
    xt_BadFamily := xt_BadFamily,
    xf_BadFamily := ⟨ga_BadFamily, gg_BadFamily, sb_BadFamily, hd_BadFamily⟩,
    xc_BadFamily := ⟨ga_BadFamily, gg_BadFamily, sb_BadFamily, hd_BadFamily, hc_BadFamily, hnC, htC, mo_BadFamily⟩,
    me_BadFamily := (by unfold PySem.W.clsIn; rw [lk_BadFamily]; rfl),
    no_BadFamily_word := no_BadFamily_word,
    g_BadVirtue := PySem.W.mg_of X G a_C_BadVirtue,
    ty_BadVirtue := ty_BadVirtue,
    ox_BadVirtue := ⟨⟨_, _, _, _, _, _, _, _, _, _, _, _, _, _, _, _, lk_BadVirtue, PySem.OexX.mroX_ve rfl⟩, sa_BadVirtue, sb_BadVirtue, ty_BadVirtue, kc_BadVirtue⟩,
    xt_BadVirtue := xt_BadVirtue,
    xf_BadVirtue := ⟨ga_BadVirtue, gg_BadVirtue, sb_BadVirtue, hd_BadVirtue⟩,
    xc_BadVirtue := ⟨ga_BadVirtue, gg_BadVirtue, sb_BadVirtue, hd_BadVirtue, hc_BadVirtue, hnC, htC, mo_BadVirtue⟩,
    me_BadVirtue := (by unfold PySem.W.clsIn; rw [lk_BadVirtue]; rfl),
    no_BadVirtue_word := no_BadVirtue_word,
    g_BadMaker := PySem.W.mg_of X G a_C_BadMaker,
    ty_BadMaker := ty_BadMaker,
    ox_BadMaker := ⟨⟨_, _, _, _, _, _, _, _, _, _, _, _, _, _, _, _, lk_BadMaker, PySem.OexX.mroX_ve rfl⟩, sa_BadMaker, sb_BadMaker, ty_BadMaker, kc_BadMaker⟩,
    xt_BadMaker := xt_BadMaker,
    xf_BadMaker := ⟨ga_BadMaker, gg_BadMaker, sb_BadMaker, hd_BadMaker⟩,
    xc_BadMaker := ⟨ga_BadMaker, gg_BadMaker, sb_BadMaker, hd_BadMaker, hc_BadMaker, hnC, htC, mo_BadMaker⟩,
    me_BadMaker := (by unfold PySem.W.clsIn; rw [lk_BadMaker]; rfl),
    no_BadMaker_maker := no_BadMaker_maker,
    g_NoClass := PySem.W.mg_of X G a_C_NoClass,
    ty_NoClass := ty_NoClass,
    ox_NoClass := ⟨⟨_, _, _, _, _, _, _, _, _, _, _, _, _, _, _, _, lk_NoClass, PySem.OexX.mroX_ve rfl⟩, sa_NoClass, sb_NoClass, ty_NoClass, kc_NoClass⟩,
    xt_NoClass := xt_NoClass,
    xf_NoClass := ⟨ga_NoClass, gg_NoClass, sb_NoClass, hd_NoClass⟩,
    xc_NoClass := ⟨ga_NoClass, gg_NoClass, sb_NoClass, hd_NoClass, hc_NoClass, hnC, htC, mo_NoClass⟩,
    me_NoClass := (by unfold PySem.W.clsIn; rw [lk_NoClass]; rfl),
    no_NoClass_name := no_NoClass_name,
    g_NoSign := PySem.W.mg_of X G a_C_NoSign,
    ty_NoSign := ty_NoSign,
    ox_NoSign := ⟨⟨_, _, _, _, _, _, _, _, _, _, _, _, _, _, _, _, lk_NoSign, PySem.OexX.mroX_ve rfl⟩, sa_NoSign, sb_NoSign, ty_NoSign, kc_NoSign⟩,
    xt_NoSign := xt_NoSign,
    xf_NoSign := ⟨ga_NoSign, gg_NoSign, sb_NoSign, hd_NoSign⟩,
    xc_NoSign := ⟨ga_NoSign, gg_NoSign, sb_NoSign, hd_NoSign, hc_NoSign, hnC, htC, mo_NoSign⟩,
    me_NoSign := (by unfold PySem.W.clsIn; rw [lk_NoSign]; rfl),
    no_NoSign_sign := no_NoSign_sign,
    g_TooMany := PySem.W.mg_of X G a_C_TooMany,
    ty_TooMany := ty_TooMany,
    ox_TooMany := ⟨⟨_, _, _, _, _, _, _, _, _, _, _, _, _, _, _, _, lk_TooMany, PySem.OexX.mroX_ve rfl⟩, sa_TooMany, sb_TooMany, ty_TooMany, kc_TooMany⟩,
    xt_TooMany := xt_TooMany,
    xf_TooMany := ⟨ga_TooMany, gg_TooMany, sb_TooMany, hd_TooMany⟩,
    xc_TooMany := ⟨ga_TooMany, gg_TooMany, sb_TooMany, hd_TooMany, hc_TooMany, hnC, htC, mo_TooMany⟩,
    me_TooMany := (by unfold PySem.W.clsIn; rw [lk_TooMany]; rfl),
    no_TooMany_what := no_TooMany_what,
    g_Unlike := PySem.W.mg_of X G a_C_Unlike,
    ty_Unlike := ty_Unlike,
    ox_Unlike := ⟨⟨_, _, _, _, _, _, _, _, _, _, _, _, _, _, _, _, lk_Unlike, PySem.OexX.mroX_ve rfl⟩, sa_Unlike, sb_Unlike, ty_Unlike, kc_Unlike⟩,
    xt_Unlike := xt_Unlike,
    xf_Unlike := ⟨ga_Unlike, gg_Unlike, sb_Unlike, hd_Unlike⟩,
    xc_Unlike := ⟨ga_Unlike, gg_Unlike, sb_Unlike, hd_Unlike, hc_Unlike, hnC, htC, mo_Unlike⟩,
    me_Unlike := (by unfold PySem.W.clsIn; rw [lk_Unlike]; rfl),
    no_Unlike_at := no_Unlike_at,
    g_Surplus := PySem.W.mg_of X G a_C_Surplus,
    ty_Surplus := ty_Surplus,
    ox_Surplus := ⟨⟨_, _, _, _, _, _, _, _, _, _, _, _, _, _, _, _, lk_Surplus, PySem.OexX.mroX_le⟩, sa_Surplus, sb_Surplus, ty_Surplus, kc_Surplus⟩,
    xt_Surplus := xt_Surplus,
    xf_Surplus := ⟨ga_Surplus, gg_Surplus, sb_Surplus, hd_Surplus⟩,
    xc_Surplus := ⟨ga_Surplus, gg_Surplus, sb_Surplus, hd_Surplus, hc_Surplus, hnC, htC, mo_Surplus⟩,
    me_Surplus := (by unfold PySem.W.clsIn; rw [lk_Surplus]; rfl),
    no_Surplus_name := no_Surplus_name,
    no_Surplus_many := no_Surplus_many,
    g_Lacking := PySem.W.mg_of X G a_C_Lacking,
    ty_Lacking := ty_Lacking,
    ox_Lacking := ⟨⟨_, _, _, _, _, _, _, _, _, _, _, _, _, _, _, _, lk_Lacking, PySem.OexX.mroX_le⟩, sa_Lacking, sb_Lacking, ty_Lacking, kc_Lacking⟩,
    xt_Lacking := xt_Lacking,
    xf_Lacking := ⟨ga_Lacking, gg_Lacking, sb_Lacking, hd_Lacking⟩,
    xc_Lacking := ⟨ga_Lacking, gg_Lacking, sb_Lacking, hd_Lacking, hc_Lacking, hnC, htC, mo_Lacking⟩,
    me_Lacking := (by unfold PySem.W.clsIn; rw [lk_Lacking]; rfl),
    no_Lacking_name := no_Lacking_name,
    no_Lacking_field := no_Lacking_field,
    g_Unknown := PySem.W.mg_of X G a_C_Unknown,
    ty_Unknown := ty_Unknown,
    ox_Unknown := ⟨⟨_, _, _, _, _, _, _, _, _, _, _, _, _, _, _, _, lk_Unknown, PySem.OexX.mroX_le⟩, sa_Unknown, sb_Unknown, ty_Unknown, kc_Unknown⟩,
    xt_Unknown := xt_Unknown,
    xf_Unknown := ⟨ga_Unknown, gg_Unknown, sb_Unknown, hd_Unknown⟩,
    xc_Unknown := ⟨ga_Unknown, gg_Unknown, sb_Unknown, hd_Unknown, hc_Unknown, hnC, htC, mo_Unknown⟩,
    me_Unknown := (by unfold PySem.W.clsIn; rw [lk_Unknown]; rfl),
    no_Unknown_name := no_Unknown_name,
    no_Unknown_field := no_Unknown_field,
    g_Failed := PySem.W.mg_of X G a_C_Failed,
    ty_Failed := ty_Failed,
    ox_Failed := ⟨⟨_, _, _, _, _, _, _, _, _, _, _, _, _, _, _, _, lk_Failed, PySem.OexX.mroX_le⟩, sa_Failed, sb_Failed, ty_Failed, kc_Failed⟩,
    xt_Failed := xt_Failed,
    xf_Failed := ⟨ga_Failed, gg_Failed, sb_Failed, hd_Failed⟩,
    xc_Failed := ⟨ga_Failed, gg_Failed, sb_Failed, hd_Failed, hc_Failed, hnC, htC, mo_Failed⟩,
    me_Failed := (by unfold PySem.W.clsIn; rw [lk_Failed]; rfl),
    no_Failed_at := no_Failed_at,
    no_Failed_reason := no_Failed_reason,
    xhd_hb := xhd_hb,
    rv_nd := rv_nd,
    n_IndexError := PySem.W.mg_none_of X G n_IndexError,
    n_KeyError := PySem.W.mg_none_of X G n_KeyError,
    n_LookupError := PySem.W.mg_none_of X G n_LookupError,
    n_ValueError := PySem.W.mg_none_of X G n_ValueError,
    n_abs := PySem.W.mg_none_of X G n_abs,
    n_bool := PySem.W.mg_none_of X G n_bool,
    n_enumerate := PySem.W.mg_none_of X G n_enumerate,
    n_int := PySem.W.mg_none_of X G n_int,
    n_isinstance := PySem.W.mg_none_of X G n_isinstance,
    n_len := PySem.W.mg_none_of X G n_len,
    n_list := PySem.W.mg_none_of X G n_list,
    n_max := PySem.W.mg_none_of X G n_max,
    n_min := PySem.W.mg_none_of X G n_min,
    n_range := PySem.W.mg_none_of X G n_range,
    n_str := PySem.W.mg_none_of X G n_str }
  exact ⟨_, fun s v => .of_eq rfl, fun base _ _ => ok_law T⟩
theorem walk {l : PySem.W.OpenLaw} {q : Program} {loose : List Str} {XP : (Str → Option Value) → Heap → Prop} {YP : World → Heap → Prop} {d : DefRec} {K : Params → PySem.W.Frag} (hn : l.most = some 63) (hdf : d.params.defaults = [])
    (hY : ∀ (w : World) (h : Heap), YP w h → (K w.params).In h)
    (F : ∀ (w : World) (mg : Str → Option Value) (fa : Addr) (h : Heap), (K w.params).In h → h.Ns mainGlobals mg → mg d.name = some (.ref fa) →
      ∃ fd : FuncData, (∀ (s : Shared) (u : Value), BindsTo s fd ⟨[u], []⟩ [("_law_script", u)]) ∧ ∀ base : Heap, (K w.params).In base → base.Ns mainGlobals mg → FnOk l.prog w (K w.params) mg base CX0 4 fa fd ["_law_script"] (sp_law (K w.params))) :
    PySem.W.WalkO q loose XP YP l.row.toRowW d [] (fun f vs => PySem.call f vs) :=
  L2.walk_ofB (n := 63) (k := 4) (x := "_law_script") (CX := fun _ => CX0) (sp := fun w => sp_law (K w.params)) hn (by decide) hdf ⟨rfl, by decide, by decide⟩ hY F (fun _ _ a ns hl hb _ hS => ⟨a, ns, rfl, hS, hl, fun _ => rfl⟩) fun _ _ _ _ _ z => z
end Er
open PySem PySem.W PyProof.Rows
set_option maxRecDepth 100000 in
set_option maxHeartbeats 0 in
theorem PySem.Challenge.cw_heirsback_k90_errors_of_the_package_holds : PySem.Challenge.rw_heirsback_k90_errors_of_the_package.Holds := by
  refine hd ?_
  k_fill
  refine Er.walk (l := PySem.Challenge.rw_heirsback_k90_errors_of_the_package) rfl rfl (fun w h Y => PySem.W.kIn_of Y) ?F
  case F =>
    intro w mg fa h KX G hmg
    have hmg : mg "law" = some (.ref fa) := hmg
    refine' Er.all_mk KX G hmg ?a_C_HeirsbackError ?a_C_BadLibrary ?a_C_BadWorld ?a_C_BadValue ?a_C_BadExpression ?a_C_BadFamily ?a_C_BadVirtue ?a_C_BadMaker ?a_C_NoClass ?a_C_NoSign ?a_C_TooMany ?a_C_Unlike ?a_C_Surplus ?a_C_Lacking ?a_C_Unknown ?a_C_Failed ?a_BadLibrary_init ?i_BadLibrary_init ?l_BadLibrary_init ?c_BadLibrary_init ?k_BadLibrary_init ?a_BadWorld_init ?i_BadWorld_init ?l_BadWorld_init ?c_BadWorld_init ?k_BadWorld_init ?a_BadValue_init ?i_BadValue_init ?l_BadValue_init ?c_BadValue_init ?k_BadValue_init ?a_BadExpression_init ?i_BadExpression_init ?l_BadExpression_init ?c_BadExpression_init ?k_BadExpression_init ?a_BadFamily_init ?i_BadFamily_init ?l_BadFamily_init ?c_BadFamily_init ?k_BadFamily_init ?a_BadVirtue_init ?i_BadVirtue_init ?l_BadVirtue_init ?c_BadVirtue_init ?k_BadVirtue_init ?a_BadMaker_init ?i_BadMaker_init ?l_BadMaker_init ?c_BadMaker_init ?k_BadMaker_init ?a_NoClass_init ?i_NoClass_init ?l_NoClass_init ?c_NoClass_init ?k_NoClass_init ?a_NoSign_init ?i_NoSign_init ?l_NoSign_init ?c_NoSign_init ?k_NoSign_init ?a_TooMany_init ?i_TooMany_init ?l_TooMany_init ?c_TooMany_init ?k_TooMany_init ?a_Unlike_init ?i_Unlike_init ?l_Unlike_init ?c_Unlike_init ?k_Unlike_init ?a_Surplus_init ?i_Surplus_init ?l_Surplus_init ?c_Surplus_init ?k_Surplus_init ?a_Lacking_init ?i_Lacking_init ?l_Lacking_init ?c_Lacking_init ?k_Lacking_init ?a_Unknown_init ?i_Unknown_init ?l_Unknown_init ?c_Unknown_init ?k_Unknown_init ?a_Failed_init ?i_Failed_init ?l_Failed_init ?c_Failed_init ?k_Failed_init ?a_law_bag ?l_law_bag ?c_law_bag ?k_law_bag ?a_law_take ?l_law_take ?c_law_take ?k_law_take ?a_law_of ?l_law_of ?c_law_of ?k_law_of ?a_law_thing ?l_law_thing ?c_law_thing ?k_law_thing ?a_law_letters ?l_law_letters ?c_law_letters ?k_law_letters ?a_law_errors ?l_law_errors ?c_law_errors ?k_law_errors ?a_law_kinds ?l_law_kinds ?c_law_kinds ?k_law_kinds ?a_law_field ?l_law_field ?c_law_field ?k_law_field ?a_law_is ?l_law_is ?c_law_is ?k_law_is ?a_law_under ?l_law_under ?c_law_under ?k_law_under ?a_law_last_right ?l_law_last_right ?c_law_last_right ?k_law_last_right ?a_law ?l_law ?c_law ?k_law ?ty_HeirsbackError ?ic_HeirsbackError ?sb_HeirsbackError ?ty_BadLibrary ?sb_BadLibrary ?lk_BadLibrary ?sa_BadLibrary ?kc_BadLibrary ?xt_BadLibrary ?ga_BadLibrary ?gg_BadLibrary ?hd_BadLibrary ?hc_BadLibrary ?mo_BadLibrary ?no_BadLibrary_at ?ty_BadWorld ?sb_BadWorld ?lk_BadWorld ?sa_BadWorld ?kc_BadWorld ?xt_BadWorld ?ga_BadWorld ?gg_BadWorld ?hd_BadWorld ?hc_BadWorld ?mo_BadWorld ?no_BadWorld_at ?ty_BadValue ?sb_BadValue ?lk_BadValue ?sa_BadValue ?kc_BadValue ?xt_BadValue ?ga_BadValue ?gg_BadValue ?hd_BadValue ?hc_BadValue ?mo_BadValue ?no_BadValue_field ?ty_BadExpression ?sb_BadExpression ?lk_BadExpression ?sa_BadExpression ?kc_BadExpression ?xt_BadExpression ?ga_BadExpression ?gg_BadExpression ?hd_BadExpression ?hc_BadExpression ?mo_BadExpression ?no_BadExpression_at ?ty_BadFamily ?sb_BadFamily ?lk_BadFamily ?sa_BadFamily ?kc_BadFamily ?xt_BadFamily ?ga_BadFamily ?gg_BadFamily ?hd_BadFamily ?hc_BadFamily ?mo_BadFamily ?no_BadFamily_word ?ty_BadVirtue ?sb_BadVirtue ?lk_BadVirtue ?sa_BadVirtue ?kc_BadVirtue ?xt_BadVirtue ?ga_BadVirtue ?gg_BadVirtue ?hd_BadVirtue ?hc_BadVirtue ?mo_BadVirtue ?no_BadVirtue_word ?ty_BadMaker ?sb_BadMaker ?lk_BadMaker ?sa_BadMaker ?kc_BadMaker ?xt_BadMaker ?ga_BadMaker ?gg_BadMaker ?hd_BadMaker ?hc_BadMaker ?mo_BadMaker ?no_BadMaker_maker ?ty_NoClass ?sb_NoClass ?lk_NoClass ?sa_NoClass ?kc_NoClass ?xt_NoClass ?ga_NoClass ?gg_NoClass ?hd_NoClass ?hc_NoClass ?mo_NoClass ?no_NoClass_name ?ty_NoSign ?sb_NoSign ?lk_NoSign ?sa_NoSign ?kc_NoSign ?xt_NoSign ?ga_NoSign ?gg_NoSign ?hd_NoSign ?hc_NoSign ?mo_NoSign ?no_NoSign_sign ?ty_TooMany ?sb_TooMany ?lk_TooMany ?sa_TooMany ?kc_TooMany ?xt_TooMany ?ga_TooMany ?gg_TooMany ?hd_TooMany ?hc_TooMany ?mo_TooMany ?no_TooMany_what ?ty_Unlike ?sb_Unlike ?lk_Unlike ?sa_Unlike ?kc_Unlike ?xt_Unlike ?ga_Unlike ?gg_Unlike ?hd_Unlike ?hc_Unlike ?mo_Unlike ?no_Unlike_at ?ty_Surplus ?sb_Surplus ?lk_Surplus ?sa_Surplus ?kc_Surplus ?xt_Surplus ?ga_Surplus ?gg_Surplus ?hd_Surplus ?hc_Surplus ?mo_Surplus ?no_Surplus_name ?no_Surplus_many ?ty_Lacking ?sb_Lacking ?lk_Lacking ?sa_Lacking ?kc_Lacking ?xt_Lacking ?ga_Lacking ?gg_Lacking ?hd_Lacking ?hc_Lacking ?mo_Lacking ?no_Lacking_name ?no_Lacking_field ?ty_Unknown ?sb_Unknown ?lk_Unknown ?sa_Unknown ?kc_Unknown ?xt_Unknown ?ga_Unknown ?gg_Unknown ?hd_Unknown ?hc_Unknown ?mo_Unknown ?no_Unknown_name ?no_Unknown_field ?ty_Failed ?sb_Failed ?lk_Failed ?sa_Failed ?kc_Failed ?xt_Failed ?ga_Failed ?gg_Failed ?hd_Failed ?hc_Failed ?mo_Failed ?no_Failed_at ?no_Failed_reason ?hnC ?htC ?xhd_hb ?rv_nd ?n_IndexError ?n_KeyError ?n_LookupError ?n_ValueError ?n_abs ?n_bool ?n_enumerate ?n_int ?n_isinstance ?n_len ?n_list ?n_max ?n_min ?n_range ?n_str
    (case a_C_HeirsbackError => k_is)
    (case a_C_BadLibrary => k_is)
    (case a_C_BadWorld => k_is)
    (case a_C_BadValue => k_is)
    (case a_C_BadExpression => k_is)
    (case a_C_BadFamily => k_is)
    (case a_C_BadVirtue => k_is)
    (case a_C_BadMaker => k_is)
    (case a_C_NoClass => k_is)
    (case a_C_NoSign => k_is)
    (case a_C_TooMany => k_is)
    (case a_C_Unlike => k_is)
    (case a_C_Surplus => k_is)
    (case a_C_Lacking => k_is)
    (case a_C_Unknown => k_is)
    (case a_C_Failed => k_is)
    (case a_BadLibrary_init => k_is)
    (case i_BadLibrary_init => k_is)
    (case l_BadLibrary_init => k_is)
    (case c_BadLibrary_init => k_is)
    (case k_BadLibrary_init => k_is)
    (case a_BadWorld_init => k_is)
    (case i_BadWorld_init => k_is)
    (case l_BadWorld_init => k_is)
    (case c_BadWorld_init => k_is)
    (case k_BadWorld_init => k_is)
    (case a_BadValue_init => k_is)
    (case i_BadValue_init => k_is)
    (case l_BadValue_init => k_is)
    (case c_BadValue_init => k_is)
    (case k_BadValue_init => k_is)
    (case a_BadExpression_init => k_is)
    (case i_BadExpression_init => k_is)
    (case l_BadExpression_init => k_is)
    (case c_BadExpression_init => k_is)
    (case k_BadExpression_init => k_is)
    (case a_BadFamily_init => k_is)
    (case i_BadFamily_init => k_is)
    (case l_BadFamily_init => k_is)
    (case c_BadFamily_init => k_is)
    (case k_BadFamily_init => k_is)
    (case a_BadVirtue_init => k_is)
    (case i_BadVirtue_init => k_is)
    (case l_BadVirtue_init => k_is)
    (case c_BadVirtue_init => k_is)
    (case k_BadVirtue_init => k_is)
    (case a_BadMaker_init => k_is)
    (case i_BadMaker_init => k_is)
    (case l_BadMaker_init => k_is)
    (case c_BadMaker_init => k_is)
    (case k_BadMaker_init => k_is)
    (case a_NoClass_init => k_is)
    (case i_NoClass_init => k_is)
    (case l_NoClass_init => k_is)
    (case c_NoClass_init => k_is)
    (case k_NoClass_init => k_is)
    (case a_NoSign_init => k_is)
    (case i_NoSign_init => k_is)
    (case l_NoSign_init => k_is)
    (case c_NoSign_init => k_is)
    (case k_NoSign_init => k_is)
    (case a_TooMany_init => k_is)
    (case i_TooMany_init => k_is)
    (case l_TooMany_init => k_is)
    (case c_TooMany_init => k_is)
    (case k_TooMany_init => k_is)
    (case a_Unlike_init => k_is)
    (case i_Unlike_init => k_is)
    (case l_Unlike_init => k_is)
    (case c_Unlike_init => k_is)
    (case k_Unlike_init => k_is)
    (case a_Surplus_init => k_is)
    (case i_Surplus_init => k_is)
    (case l_Surplus_init => k_is)
    (case c_Surplus_init => k_is)
    (case k_Surplus_init => k_is)
    (case a_Lacking_init => k_is)
    (case i_Lacking_init => k_is)
    (case l_Lacking_init => k_is)
    (case c_Lacking_init => k_is)
    (case k_Lacking_init => k_is)
    (case a_Unknown_init => k_is)
    (case i_Unknown_init => k_is)
    (case l_Unknown_init => k_is)
    (case c_Unknown_init => k_is)
    (case k_Unknown_init => k_is)
    (case a_Failed_init => k_is)
    (case i_Failed_init => k_is)
    (case l_Failed_init => k_is)
    (case c_Failed_init => k_is)
    (case k_Failed_init => k_is)
    (case a_law_bag => k_is)
    (case l_law_bag => k_is)
    (case c_law_bag => k_is)
    (case k_law_bag => k_is)
    (case a_law_take => k_is)
    (case l_law_take => k_is)
    (case c_law_take => k_is)
    (case k_law_take => k_is)
    (case a_law_of => k_is)
    (case l_law_of => k_is)
    (case c_law_of => k_is)
    (case k_law_of => k_is)
    (case a_law_thing => k_is)
    (case l_law_thing => k_is)
    (case c_law_thing => k_is)
    (case k_law_thing => k_is)
    (case a_law_letters => k_is)
    (case l_law_letters => k_is)
    (case c_law_letters => k_is)
    (case k_law_letters => k_is)
    (case a_law_errors => k_is)
    (case l_law_errors => k_is)
    (case c_law_errors => k_is)
    (case k_law_errors => k_is)
    (case a_law_kinds => k_is)
    (case l_law_kinds => k_is)
    (case c_law_kinds => k_is)
    (case k_law_kinds => k_is)
    (case a_law_field => k_is)
    (case l_law_field => k_is)
    (case c_law_field => k_is)
    (case k_law_field => k_is)
    (case a_law_is => k_is)
    (case l_law_is => k_is)
    (case c_law_is => k_is)
    (case k_law_is => k_is)
    (case a_law_under => k_is)
    (case l_law_under => k_is)
    (case c_law_under => k_is)
    (case k_law_under => k_is)
    (case a_law_last_right => k_is)
    (case l_law_last_right => k_is)
    (case c_law_last_right => k_is)
    (case k_law_last_right => k_is)
    (case a_law => k_is)
    (case l_law => k_is)
    (case c_law => k_is)
    (case k_law => k_is)
    (case ty_HeirsbackError => k_is)
    (case ic_HeirsbackError => k_is)
    (case sb_HeirsbackError => k_is)
    (case ty_BadLibrary => k_is)
    (case sb_BadLibrary => k_is)
    (case lk_BadLibrary => k_is)
    (case sa_BadLibrary => k_is)
    (case kc_BadLibrary => k_is)
    (case xt_BadLibrary => k_is)
    (case ga_BadLibrary => k_is)
    (case gg_BadLibrary => k_is)
    (case hd_BadLibrary => k_is)
    (case hc_BadLibrary => k_is)
    (case mo_BadLibrary => k_is)
    (case no_BadLibrary_at => k_is)
    (case ty_BadWorld => k_is)
    (case sb_BadWorld => k_is)
    (case lk_BadWorld => k_is)
    (case sa_BadWorld => k_is)
    (case kc_BadWorld => k_is)
    (case xt_BadWorld => k_is)
    (case ga_BadWorld => k_is)
    (case gg_BadWorld => k_is)
    (case hd_BadWorld => k_is)
    (case hc_BadWorld => k_is)
    (case mo_BadWorld => k_is)
    (case no_BadWorld_at => k_is)
    (case ty_BadValue => k_is)
    (case sb_BadValue => k_is)
    (case lk_BadValue => k_is)
    (case sa_BadValue => k_is)
    (case kc_BadValue => k_is)
    (case xt_BadValue => k_is)
    (case ga_BadValue => k_is)
    (case gg_BadValue => k_is)
    (case hd_BadValue => k_is)
    (case hc_BadValue => k_is)
    (case mo_BadValue => k_is)
    (case no_BadValue_field => k_is)
    (case ty_BadExpression => k_is)
    (case sb_BadExpression => k_is)
    (case lk_BadExpression => k_is)
    (case sa_BadExpression => k_is)
    (case kc_BadExpression => k_is)
    (case xt_BadExpression => k_is)
    (case ga_BadExpression => k_is)
    (case gg_BadExpression => k_is)
    (case hd_BadExpression => k_is)
    (case hc_BadExpression => k_is)
    (case mo_BadExpression => k_is)
    (case no_BadExpression_at => k_is)
    (case ty_BadFamily => k_is)
    (case sb_BadFamily => k_is)
    (case lk_BadFamily => k_is)
    (case sa_BadFamily => k_is)
    (case kc_BadFamily => k_is)
    (case xt_BadFamily => k_is)
    (case ga_BadFamily => k_is)
    (case gg_BadFamily => k_is)
    (case hd_BadFamily => k_is)
    (case hc_BadFamily => k_is)
    (case mo_BadFamily => k_is)
    (case no_BadFamily_word => k_is)
    (case ty_BadVirtue => k_is)
    (case sb_BadVirtue => k_is)
    (case lk_BadVirtue => k_is)
    (case sa_BadVirtue => k_is)
    (case kc_BadVirtue => k_is)
    (case xt_BadVirtue => k_is)
    (case ga_BadVirtue => k_is)
    (case gg_BadVirtue => k_is)
    (case hd_BadVirtue => k_is)
    (case hc_BadVirtue => k_is)
    (case mo_BadVirtue => k_is)
    (case no_BadVirtue_word => k_is)
    (case ty_BadMaker => k_is)
    (case sb_BadMaker => k_is)
    (case lk_BadMaker => k_is)
    (case sa_BadMaker => k_is)
    (case kc_BadMaker => k_is)
    (case xt_BadMaker => k_is)
    (case ga_BadMaker => k_is)
    (case gg_BadMaker => k_is)
    (case hd_BadMaker => k_is)
    (case hc_BadMaker => k_is)
    (case mo_BadMaker => k_is)
    (case no_BadMaker_maker => k_is)
    (case ty_NoClass => k_is)
    (case sb_NoClass => k_is)
    (case lk_NoClass => k_is)
    (case sa_NoClass => k_is)
    (case kc_NoClass => k_is)
    (case xt_NoClass => k_is)
    (case ga_NoClass => k_is)
    (case gg_NoClass => k_is)
    (case hd_NoClass => k_is)
    (case hc_NoClass => k_is)
    (case mo_NoClass => k_is)
    (case no_NoClass_name => k_is)
    (case ty_NoSign => k_is)
    (case sb_NoSign => k_is)
    (case lk_NoSign => k_is)
    (case sa_NoSign => k_is)
    (case kc_NoSign => k_is)
    (case xt_NoSign => k_is)
    (case ga_NoSign => k_is)
    (case gg_NoSign => k_is)
    (case hd_NoSign => k_is)
    (case hc_NoSign => k_is)
    (case mo_NoSign => k_is)
    (case no_NoSign_sign => k_is)
    (case ty_TooMany => k_is)
    (case sb_TooMany => k_is)
    (case lk_TooMany => k_is)
    (case sa_TooMany => k_is)
    (case kc_TooMany => k_is)
    (case xt_TooMany => k_is)
    (case ga_TooMany => k_is)
    (case gg_TooMany => k_is)
    (case hd_TooMany => k_is)
    (case hc_TooMany => k_is)
    (case mo_TooMany => k_is)
    (case no_TooMany_what => k_is)
    (case ty_Unlike => k_is)
    (case sb_Unlike => k_is)
    (case lk_Unlike => k_is)
    (case sa_Unlike => k_is)
    (case kc_Unlike => k_is)
    (case xt_Unlike => k_is)
    (case ga_Unlike => k_is)
    (case gg_Unlike => k_is)
    (case hd_Unlike => k_is)
    (case hc_Unlike => k_is)
    (case mo_Unlike => k_is)
    (case no_Unlike_at => k_is)
    (case ty_Surplus => k_is)
    (case sb_Surplus => k_is)
    (case lk_Surplus => k_is)
    (case sa_Surplus => k_is)
    (case kc_Surplus => k_is)
    (case xt_Surplus => k_is)
    (case ga_Surplus => k_is)
    (case gg_Surplus => k_is)
    (case hd_Surplus => k_is)
    (case hc_Surplus => k_is)
    (case mo_Surplus => k_is)
    (case no_Surplus_name => k_is)
    (case no_Surplus_many => k_is)
    (case ty_Lacking => k_is)
    (case sb_Lacking => k_is)
    (case lk_Lacking => k_is)
    (case sa_Lacking => k_is)
    (case kc_Lacking => k_is)
    (case xt_Lacking => k_is)
    (case ga_Lacking => k_is)
    (case gg_Lacking => k_is)
    (case hd_Lacking => k_is)
    (case hc_Lacking => k_is)
    (case mo_Lacking => k_is)
    (case no_Lacking_name => k_is)
    (case no_Lacking_field => k_is)
    (case ty_Unknown => k_is)
    (case sb_Unknown => k_is)
    (case lk_Unknown => k_is)
    (case sa_Unknown => k_is)
    (case kc_Unknown => k_is)
    (case xt_Unknown => k_is)
    (case ga_Unknown => k_is)
    (case gg_Unknown => k_is)
    (case hd_Unknown => k_is)
    (case hc_Unknown => k_is)
    (case mo_Unknown => k_is)
    (case no_Unknown_name => k_is)
    (case no_Unknown_field => k_is)
    (case ty_Failed => k_is)
    (case sb_Failed => k_is)
    (case lk_Failed => k_is)
    (case sa_Failed => k_is)
    (case kc_Failed => k_is)
    (case xt_Failed => k_is)
    (case ga_Failed => k_is)
    (case gg_Failed => k_is)
    (case hd_Failed => k_is)
    (case hc_Failed => k_is)
    (case mo_Failed => k_is)
    (case no_Failed_at => k_is)
    (case no_Failed_reason => k_is)
    (case hnC => k_is)
    (case htC => k_is)
    (case xhd_hb => k_is)
    (case rv_nd => first | rfl | decide +kernel)
    (case n_IndexError => k_is)
    (case n_KeyError => k_is)
    (case n_LookupError => k_is)
    (case n_ValueError => k_is)
    (case n_abs => k_is)
    (case n_bool => k_is)
    (case n_enumerate => k_is)
    (case n_int => k_is)
    (case n_isinstance => k_is)
    (case n_len => k_is)
    (case n_list => k_is)
    (case n_max => k_is)
    (case n_min => k_is)
    (case n_range => k_is)
    (case n_str => k_is)
#print axioms PySem.Challenge.cw_heirsback_k90_errors_of_the_package_holds

