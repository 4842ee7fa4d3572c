import PyProof.Rows.All
import Wide.All
import OpenK.AllK
import Wide.FinOn
import HandS.ForMost
import HandS.ForExc
import HandS.FStr
import HandS.Wide
import HandS.Deep
import HandS.OwnEq
import HandS.ClsMeth
import HandS.CallRecv
import HandS.CallLocal
import HandS.IsInst
import HandS.EndBits
import HandS.RaiseMore
import HandS.Evl
import HandS.Style
import HandS.Codes
import HandS.ExcInit
import HandS.ExcField
import HandS.ExcIs
import HandS.ExcOwn
import HandS.Lambda
import KE.KExcIs
import HandS.DictComp
import HandS.StrSplit
import HandS.MapJoin
import PyProof.ListStr
import HandS.Defaults
import HandS.TryOnly
import PyProof.StrLawsChain
import HandS.NoneIn
import HandS.ReplaceLit
import PyProof.StrLawsReplace
import PySem.Challenge.RW_heirsback_k02_libraries_refused
set_option Elab.async false
set_option linter.all false
set_option maxRecDepth 100000
set_option maxHeartbeats 4000000
/-! Rules beside the hand layer: own special methods by the built-in's name, static methods, classes held in a name. -/
namespace Hk
open PySem PySem.Spec PyProof.Rows L2

/-! ### a def run somewhere below the running body -/
section
variable {X : Cx} {CX : CXT} {n : Nat} {f C : Addr} {fd : FuncData} {ps : List Str} {sp : Sp} {E : XK} {pins : List (Addr × Obj)} {σ : L2.St} {H : Hp} {s : Shared}
theorem run_sub {A : Around} {Q : VK} {us : List Value} {vs : List V} (sb : Sub X n A) (F : FnOk X.prog X.w X.K X.mg X.base CX n f fd ps sp) (hb : Binds X.K fd ps []) (hx : Passes CX X E)
    (I : Inv X pins σ H s) (r : Vals vs us) (h : sp vs H Q E) : wpAny (model X.prog X.w) A (call (.ref f) us) (EP X pins σ Q) X.xe s := by
  have hl : us.length = ps.length := by rw [← r.length]; exact F.len _ _ _ _ h
  have e0 : Env0 X.prog X.w X.K X.mg X.base A X.stack s H := by
    have e := I.env0
    exact ⟨by rw [sb.fr]; exact e.frames, e.mod, e.bs, e.bsz, e.funs, e.frf, e.hok, e.bare⟩
  refine wpAny_call (codeAny_mono (F.run A X.stack s H ⟨us, []⟩ us vs Q E sb.room e0 (by
    have := hb s us I.kIn (by simpa using hl)
    simpa using this) r h) fun r s' hq => ?_)
  cases r with
  | error e => exact hx pins σ H s e s' I hq
  | ok fl =>
    cases fl with
    | ret u => exact I.after hq
    | next => exact False.elim hq
    | brk => exact False.elim hq
    | cont => exact False.elim hq
end

/-- the class at C has the def at f for this name, which keeps sp -/
structure Own (X : Cx) (C : Addr) (name : Str) (n : Nat) (sp : Sp) (E : XK) : Prop where
  ex : ∃ (f : Addr) (fd : FuncData) (ps : List Str) (CX : CXT), FnOk X.prog X.w X.K X.mg X.base CX n f fd ps sp ∧ PySem.W.findIn X.K (.ref C) name = some (some (.ref f)) ∧ PySem.W.isFn X.K (.ref f) = true ∧ Binds X.K fd ps [] ∧ Passes CX X E

section
variable {X : Cx} {n : Nat} {C : Addr} {sp : Sp} {E : XK}
/-- len(o) by __len__ -/
def rLenO (C : Addr) (sp : Sp) (E : XK) : List V → Hp → VK → Prop := fun xs H Q => ∃ a dx fs, xs = [.ref a] ∧ H a = some (.ins C dx fs) ∧ sp [.ref a] H (fun v H' => ∃ k : Int, v = .int k ∧ (0 ≤ k ∧ k < 2 ^ 63) ∧ Q (.int k) H') E
theorem call_lenO (G : Own X C "__len__" n sp E) (hr : Room (n + 1) X.A) : CallR X (.builtin "len") (rLenO C sp E) := by
  obtain ⟨f, fd, ps, CX, F, hs, hf, hb, hx⟩ := G.ex
  intro pins s σ H xs us Q I r h
  obtain ⟨a, dx, fs, rfl, ha, q⟩ := h
  cases r with
  | cons r1 r2 =>
    cases r2
    cases r1
    obtain ⟨mA, J, _⟩ := ins_get I.hok ha
    obtain ⟨od, J, _⟩ := J.look
    obtain ⟨m, hF⟩ := I.fr
    refine PySem.W.len_K hF I.ok.mod.kin J hs hf ?_
    have sb : Sub X n X.A.in1 := ⟨hr.in1, rfl⟩
    refine thn (run_sub (vs := [V.ref a]) sb F hb hx I (.cons rfl .nil) q) fun u s1 hh => ?_
    obtain ⟨v, H1, I1, rv, k, rfl, hk, q1⟩ := hh
    obtain ⟨t, rfl⟩ := rv
    exact ⟨hk, .int k, H1, I1.tok _, ⟨_, rfl⟩, q1⟩
/-- str(o) by __str__ -/
def rStrO (C : Addr) (sp : Sp) (E : XK) : List V → Hp → VK → Prop := fun xs H Q => ∃ a dx fs, xs = [.ref a] ∧ H a = some (.ins C dx fs) ∧ sp [.ref a] H (fun v H' => ∃ k : Str, v = .str k ∧ Q (.str k) H') E
theorem call_strO (G : Own X C "__str__" n sp E) (hr : Room (n + 2) X.A) : CallR X (.type "str") (rStrO C sp E) := by
  obtain ⟨f, fd, ps, CX, F, hs, hf, hb, hx⟩ := G.ex
  intro pins s σ H xs us Q I r h
  obtain ⟨a, dx, fs, rfl, ha, q⟩ := h
  cases r with
  | cons r1 r2 =>
    cases r2
    cases r1
    obtain ⟨mA, J, _⟩ := ins_get I.hok ha
    obtain ⟨od, J, _⟩ := J.look
    have sb : Sub X n X.A.in1.in1 := ⟨hr.in1.in1, rfl⟩
    refine PySem.W.kso_call sb.room.units0 I.kIn J hs hf ?_
    refine thn (run_sub (vs := [V.ref a]) sb F hb hx I (.cons rfl .nil) q) fun u s1 hh => ?_
    obtain ⟨v, H1, I1, rv, k, rfl, q1⟩ := hh
    obtain ⟨t, rfl⟩ := rv
    exact ⟨.str k, H1, I1, ⟨_, rfl⟩, q1⟩
/-- repr(o) by __repr__ -/
def rReprO (C : Addr) (sp : Sp) (E : XK) : List V → Hp → VK → Prop := rStrO C sp E
theorem call_reprO (G : Own X C "__repr__" n sp E) (hr : Room (n + 1) X.A) : CallR X (.builtin "repr") (rReprO C sp E) := by
  obtain ⟨f, fd, ps, CX, F, hs, hf, hb, hx⟩ := G.ex
  intro pins s σ H xs us Q I r h
  obtain ⟨a, dx, fs, rfl, ha, q⟩ := h
  cases r with
  | cons r1 r2 =>
    cases r2
    cases r1
    obtain ⟨mA, J, _⟩ := ins_get I.hok ha
    obtain ⟨od, J, _⟩ := J.look
    obtain ⟨m, hF⟩ := I.fr
    have sb : Sub X n X.A.in1 := ⟨hr.in1, rfl⟩
    refine PySem.W.repr_K sb.room.units0 hF I.ok.mod.kin J hs hf ?_
    refine thn (run_sub (vs := [V.ref a]) sb F hb hx I (.cons rfl .nil) q) fun u s1 hh => ?_
    obtain ⟨v, H1, I1, rv, k, rfl, q1⟩ := hh
    obtain ⟨t, rfl⟩ := rv
    exact ⟨.str k, H1, I1, ⟨_, rfl⟩, q1⟩
/-- the truth of o by __bool__ -/
def rTruO (C : Addr) (sp : Sp) (E : XK) : V → Hp → (Bool → Hp → Prop) → Prop := fun x H Q => ∃ a dx fs, x = .ref a ∧ H a = some (.ins C dx fs) ∧ sp [.ref a] H (fun v H' => ∃ b : Bool, v = .bl b ∧ Q b H') E
theorem tru_O (G : Own X C "__bool__" n sp E) (hr : Room n X.A) : TruR X (rTruO C sp E) := by
  obtain ⟨f, fd, ps, CX, F, hs, hf, hb, hx⟩ := G.ex
  intro pins s σ H x u Q I r h
  obtain ⟨a, dx, fs, rfl, ha, q⟩ := h
  cases r
  obtain ⟨mA, J, _⟩ := ins_get I.hok ha
  obtain ⟨od, J, _⟩ := J.look
  obtain ⟨m, hF⟩ := I.fr
  have sb : Sub X n X.A := ⟨hr, rfl⟩
  refine PySem.W.truthy_K hF I.ok.mod.kin J hs hf ?_
  refine thn (run_sub (vs := [V.ref a]) sb F hb hx I (.cons rfl .nil) q) fun u s1 hh => ?_
  obtain ⟨v, H1, I1, rv, k, rfl, q1⟩ := hh
  cases rv
  exact ⟨H1, I1, q1⟩

/-! ### == and != by __eq__ -/
/-- the type of the other value: an instance of the class itself, or something that is not below it -/
def OtherTy (X : Cx) (H : Hp) (C : Addr) (y : V) : Prop := (∃ b dx fs, y = .ref b ∧ H b = some (.ins C dx fs)) ∨ ∃ t, TyOf X.K H y t ∧ PySem.W.notFirst X.K C t = true
def rEqO (X : Cx) (C : Addr) (sp : Sp) (E : XK) : R2 := fun x y H Q => ∃ a dx fs, x = .ref a ∧ H a = some (.ins C dx fs) ∧ OtherTy X H C y ∧ sp [.ref a, y] H (fun v H' => ∃ b : Bool, v = .bl b ∧ Q (.bl b) H') E
def rNeO (X : Cx) (C : Addr) (sp : Sp) (E : XK) : R2 := fun x y H Q => ∃ a dx fs, x = .ref a ∧ H a = some (.ins C dx fs) ∧ OtherTy X H C y ∧ sp [.ref a, y] H (fun v H' => ∃ b : Bool, v = .bl b ∧ Q (.bl (!b)) H') E
theorem other_looks {pins : List (Addr × Obj)} {σ : L2.St} {H : Hp} {s : Shared} {y : V} {u : Value} (I : Inv X pins σ H s) (ry : RelV y u) (h : OtherTy X H C y) : ∃ t, PySem.W.Looks (model X.prog X.w) s.heap (typeOf u) t ∧ PySem.W.notFirst X.K C t = true := by
  rcases h with ⟨b, dx, fs, rfl, hb⟩ | ⟨t, ty, hn⟩
  · cases ry
    obtain ⟨mA, J, _⟩ := ins_get I.hok hb
    obtain ⟨od, J, _⟩ := J.look
    exact ⟨.ref C, J.type, by simp [PySem.W.notFirst]⟩
  · refine ⟨t, ?_, hn⟩
    cases ty with
    | non => cases (show u = Value.none from ry); exact .of_pure rfl
    | bl y => cases (show u = Value.bool y from ry); exact .of_pure rfl
    | int i => obtain ⟨t, rfl⟩ := (show ∃ t, u = Value.int i t from ry); exact .of_pure rfl
    | str x => obtain ⟨t, rfl⟩ := (show ∃ t, u = Value.str x t from ry); exact .of_pure rfl
    | flt x => obtain ⟨t, rfl⟩ := (show ∃ t, u = Value.float x t from ry); exact .of_pure rfl
    | lst e =>
      cases ry
      obtain ⟨_, its, n, _, e'⟩ := I.hok _ _ e
      exact (PySem.W.Looks.ld e').andThen .now
    | frz e =>
      cases ry
      obtain ⟨eo, _, its, n, _, e'⟩ := I.hok _ _ e
      exact (PySem.W.Looks.ld e').andThen .now
    | tup e =>
      cases ry
      obtain ⟨_, its, _, e'⟩ := I.hok _ _ e
      obtain ⟨o, ho, hc, _⟩ := e'
      exact hc ▸ (PySem.W.Looks.ld ho).andThen .now
    | dK e =>
      cases ry
      obtain ⟨_, _, vs, _, o, es, ep, ho, hx, _⟩ := I.hok _ _ e
      exact hx.1 ▸ (PySem.W.Looks.ld ho).andThen .now
    | dT e =>
      cases ry
      obtain ⟨_, _, xs, _, o, es, ep, ho, hx, _⟩ := I.hok _ _ e
      exact hx.1 ▸ (PySem.W.Looks.ld ho).andThen .now
    | ins e cl ha hg htk hm =>
      cases ry
      obtain ⟨mA, J, _⟩ := ins_get I.hok e
      obtain ⟨od, J, _⟩ := J.look
      exact J.type
theorem op_eqO (G : Own X C "__eq__" n sp E) (hr : Room n X.A) : OpR X (compareOp .Eq) (rEqO X C sp E) := by
  obtain ⟨f, fd, ps, CX, F, hs, hf, hb, hx⟩ := G.ex
  intro pins s σ H x y v u Q I rx ry h
  obtain ⟨a, dx, fs, rfl, ha, ho, q⟩ := h
  cases rx
  obtain ⟨t, ht, hn⟩ := other_looks I ry ho
  obtain ⟨mA, J, _⟩ := ins_get I.hok ha
  obtain ⟨od, J, _⟩ := J.look
  obtain ⟨m, hF⟩ := I.fr
  have sb : Sub X n X.A := ⟨hr, rfl⟩
  show wpAny (model X.prog X.w) X.A (richCompare .Eq (.ref a) u) (EP X pins σ Q) X.xe s
  refine PySem.W.cmp_K (op := .Eq) sb.room.units0 hF I.ok.mod.kin J ht hn hs hf ?_
  refine thn (run_sub (vs := [V.ref a, y]) sb F hb hx I (.cons rfl (.cons ry .nil)) q) fun w1 s1 hh => ?_
  obtain ⟨z, H1, I1, rv, b, rfl, q1⟩ := hh
  cases rv
  exact ⟨.bl b, H1, I1, rfl, q1⟩

theorem ifBound_B {M : Model} {A : Around} {E : Value → Shared → Prop} {s : Shared} {K : PySem.W.Frag} {x C : Addr} {ox : Obj} {od : Option Obj} {name : Str} {id : String} {args : List Value} {Q : Option Value → Shared → Prop} (X : K.In s.heap) (I : PySem.W.InstAt s.heap x ox C od) (hs : PySem.W.findIn K (.ref C) name = some (some (.builtin id)))
    (hb : ∀ self, bindSpecial (.builtin id) self = pure (.builtin id, [self])) (h : wpAny M A (call (.builtin id) (.ref x :: args)) (fun v => Q (some v)) E s) : wpAny M A (callSpecialIfBound? (.ref x) name args) Q E s := by
  simp only [callSpecialIfBound?, bindSpecialIfBound?]
  refine wpAny_holding (wpAny_bind (wpAny_bind (wpAny_bind (I.type.here ((PySem.W.looks_findIn X hs).here ?_)))))
  refine wpAny_bind (wpAny_askSetting (wpAny_ite ?_))
  have fin : wpAny M A (call (.builtin id) ([.ref x] ++ args) >>= fun v => pure (some v)) Q E s := wpAny_bind (wpAny_mono h (fun v s' h' => wpAny_pure h') fun _ _ h' => h')
  split
  · exact wpAny_bind ((PySem.W.Looks.of_pure (hb _)).here (wpAny_pure (by exact fin)))
  · exact wpAny_tryCatch (wpAny_bind ((PySem.W.Looks.of_pure (hb _)).here (wpAny_pure (by exact fin))))
open Builtin in
theorem ne_K {prog : Program} {w : World} {A : Around} {E : Value → Shared → Prop} {s : Shared} {K : PySem.W.Frag} {x C f : Addr} {ox : Obj} {od : Option Obj} {b tb : Value} {Q : Value → Shared → Prop} (hu : A.units < cLine) (hu1 : A.in1.units < cLine) (X : K.In s.heap) (I : PySem.W.InstAt s.heap x ox C od)
    (hb : PySem.W.Looks (model prog w) s.heap (typeOf b) tb) (hn : PySem.W.notFirst K C tb = true) (hne : PySem.W.findIn K (.ref C) "__ne__" = some (some (.builtin "object.__ne__"))) (hm : PySem.W.mroIn K C (.type "object") = some true)
    (hs : PySem.W.findIn K (.ref C) "__eq__" = some (some (.ref f))) (hf : PySem.W.isFn K (.ref f) = true)
    (h : wpAny (model prog w) A.in1 (call (.ref f) [.ref x, b]) (fun v s' => ∃ r : Bool, v = .bool r ∧ Q (.bool (!r)) s') E s) : wpAny (model prog w) A (richCompare .NotEq (.ref x) b) Q E s := by
  have one : wpAny (model prog w) A (tryCompare (.ref x) "__ne__" b) (fun r s' => ∃ v, r = some v ∧ Q v s') E s := by
    unfold tryCompare
    refine wpAny_bind (ifBound_B X I hne PySem.F.slot_object_ne.bind ?_)
    refine wpAny_call (codeAny_call_builtin PySem.F.slot_object_ne.plain PySem.F.cmpEntry_ne (PySem.W.check_slot (i := "object.__ne__") (owner := "object") (n := "__ne__") (by decide +kernel) (by decide +kernel) (I.type.andThen (PySem.W.looks_mroIn X hm)) (PySem.F.cmpArgs_ne _ _) ?_))
    unfold Builtin.«object.__ne__»
    refine wpAny_bind (m := slotArgs "__ne__" 1 _) (wpAny_pure ?_)
    refine wpAny_bind (m := cRoomFor _ _) (wpAny_cRoomFor hu1 ?_)
    refine wpAny_bind (m := callSpecialIfBound? (.ref x) (Str.ofString "__eq__") _) (PySem.W.ifBound_K X I hs hf (wpAny_mono h (fun r s' hr => ?_) fun _ _ y => y))
    obtain ⟨r, rfl, hq⟩ := hr
    refine wpAny_bind (wpAny_truthy_bool ?_)
    exact wpAny_pure (wpAny_pure ⟨_, rfl, hq⟩)
  unfold richCompare
  simp only [PySem.oneThing_ref]
  refine wpAny_holding (wpAny_bind (wpAny_cRoomFor hu ?_))
  refine wpAny_bind (I.type.here (wpAny_bind (hb.here ?_)))
  split
  · rename_i q
    have e : PySem.W.subIn K tb (.ref C) = some false := by
      rcases Bool.or_eq_true_iff.mp hn with e | e
      · rw [beq_iff_eq.mp e] at q; simp at q
      · exact beq_iff_eq.mp e
    refine wpAny_bind ((PySem.W.looks_subIn X e).here ?_)
    simp only [Bool.false_eq_true, if_false]
    refine wpAny_bind (wpAny_mono one (fun r s' z => ?_) fun _ _ e => e)
    obtain ⟨v, rfl, hq⟩ := z
    exact wpAny_pure hq
  · refine wpAny_bind (wpAny_pure ?_)
    simp only [Bool.false_eq_true, if_false]
    refine wpAny_bind (wpAny_mono one (fun r s' z => ?_) fun _ _ e => e)
    obtain ⟨v, rfl, hq⟩ := z
    exact wpAny_pure hq
/-- what a class with its own __eq__ must have for != -/
structure NeC (K : PySem.W.Frag) (C : Addr) : Prop where
  ne : PySem.W.findIn K (.ref C) "__ne__" = some (some (.builtin "object.__ne__"))
  ob : PySem.W.mroIn K C (.type "object") = some true
theorem op_neO (G : Own X C "__eq__" n sp E) (N : NeC X.K C) (hr : Room (n + 1) X.A) : OpR X (compareOp .NotEq) (rNeO X C sp E) := by
  obtain ⟨f, fd, ps, CX, F, hs, hf, hb, hx⟩ := G.ex
  intro pins s σ H x y v u Q I rx ry h
  obtain ⟨a, dx, fs, rfl, ha, ho, q⟩ := h
  cases rx
  obtain ⟨t, ht, hn⟩ := other_looks I ry ho
  obtain ⟨mA, J, _⟩ := ins_get I.hok ha
  obtain ⟨od, J, _⟩ := J.look
  have sb : Sub X n X.A.in1 := ⟨hr.in1, rfl⟩
  show wpAny (model X.prog X.w) X.A (richCompare .NotEq (.ref a) u) (EP X pins σ Q) X.xe s
  refine ne_K hr.units0 sb.room.units0 I.kIn J ht hn N.ne N.ob hs hf ?_
  refine thn (run_sub (vs := [V.ref a, y]) sb F hb hx I (.cons rfl (.cons ry .nil)) q) fun w1 s1 hh => ?_
  obtain ⟨z, H1, I1, rv, b, rfl, q1⟩ := hh
  cases rv
  exact ⟨b, rfl, .bl (!b), H1, I1, rfl, q1⟩

/-! ### in by __contains__, operators by their own methods -/
def rInO (C : Addr) (sp : Sp) (E : XK) (g : Bool → Bool) : R2 := fun x y H Q => ∃ a dx fs, y = .ref a ∧ H a = some (.ins C dx fs) ∧ sp [.ref a, x] H (fun v H' => ∃ b : Bool, v = .bl b ∧ Q (.bl (g b)) H') E
theorem op_inO (G : Own X C "__contains__" n sp E) (hr : Room n X.A) : OpR X (compareOp .In) (rInO C sp E id) := by
  obtain ⟨f, fd, ps, CX, F, hs, hf, hb, hx⟩ := G.ex
  intro pins s σ H x y v u Q I rx ry h
  obtain ⟨a, dx, fs, rfl, ha, q⟩ := h
  cases ry
  obtain ⟨mA, J, _⟩ := ins_get I.hok ha
  obtain ⟨od, J, _⟩ := J.look
  obtain ⟨m, hF⟩ := I.fr
  have sb : Sub X n X.A := ⟨hr, rfl⟩
  refine PySem.W.in_K hF I.ok.mod.kin J hs hf ?_
  refine thn (run_sub (vs := [V.ref a, x]) sb F hb hx I (.cons rfl (.cons rx .nil)) q) fun w1 s1 hh => ?_
  obtain ⟨z, H1, I1, rv, b, rfl, q1⟩ := hh
  cases rv
  exact wpAny_truthy_bool ⟨.bl b, H1, I1, rfl, q1⟩
theorem op_notInO (G : Own X C "__contains__" n sp E) (hr : Room n X.A) : OpR X (compareOp .NotIn) (rInO C sp E not) := by
  obtain ⟨f, fd, ps, CX, F, hs, hf, hb, hx⟩ := G.ex
  intro pins s σ H x y v u Q I rx ry h
  obtain ⟨a, dx, fs, rfl, ha, q⟩ := h
  cases ry
  obtain ⟨mA, J, _⟩ := ins_get I.hok ha
  obtain ⟨od, J, _⟩ := J.look
  obtain ⟨m, hF⟩ := I.fr
  have sb : Sub X n X.A := ⟨hr, rfl⟩
  refine PySem.W.notIn_K hF I.ok.mod.kin J hs hf ?_
  refine thn (run_sub (vs := [V.ref a, x]) sb F hb hx I (.cons rfl (.cons rx .nil)) q) fun w1 s1 hh => ?_
  obtain ⟨z, H1, I1, rv, b, rfl, q1⟩ := hh
  cases rv
  exact wpAny_truthy_bool ⟨.bl (!b), H1, I1, rfl, q1⟩
/-- a op b, two instances of one class; the answer an object -/
def rBinO (C : Addr) (sp : Sp) (E : XK) : R2 := fun x y H Q => ∃ a dx fs b dy gs, x = .ref a ∧ y = .ref b ∧ H a = some (.ins C dx fs) ∧ H b = some (.ins C dy gs) ∧ sp [.ref a, .ref b] H (fun v H' => ∃ p, v = .ref p ∧ Q (.ref p) H') E
theorem op_binO {op : Operator} (G : Own X C (dunder op.info.snd) n sp E) (hc : PySem.W.selfFirst X.K C = true) (hr : Room n X.A) : OpR X (binaryOp op) (rBinO C sp E) := by
  obtain ⟨f, fd, ps, CX, F, hs, hf, hb, hx⟩ := G.ex
  intro pins s σ H x y v u Q I rx ry h
  obtain ⟨a, dx, fs, b, dy, gs, rfl, rfl, ha, hb', q⟩ := h
  cases rx
  cases ry
  obtain ⟨mA, J, _⟩ := ins_get I.hok ha
  obtain ⟨od, J, _⟩ := J.look
  obtain ⟨mB, J', _⟩ := ins_get I.hok hb'
  obtain ⟨od', J', _⟩ := J'.look
  obtain ⟨m, hF⟩ := I.fr
  have sb : Sub X n X.A := ⟨hr, rfl⟩
  refine PySem.W.binop_K hF I.ok.mod.kin J J'.type hc hs hf ?_
  refine thn (run_sub (vs := [V.ref a, V.ref b]) sb F hb hx I (.cons rfl (.cons rfl .nil)) q) fun w1 s1 hh => ?_
  obtain ⟨z, H1, I1, rv, p, rfl, q1⟩ := hh
  cases rv
  exact ⟨.ref p, H1, I1, rfl, q1⟩
end

/-! ### static methods, read off the class -/
structure SMet (K : PySem.W.Frag) (C : Addr) (mc : Value) (m : Str) (g : Addr) : Prop where
  rd : ClX.CRead K C mc
  at_ : ∃ p o, PySem.W.findCls K (.ref C) mc m = some (.get (.builtin "staticmethod.__get__") (.ref p) o (.ref C)) ∧ ∃ rest, PySem.W.recIn K p "staticmethod" = some (.ref g :: rest)
  kp : PySem.W.keepIn K (.ref g) = true
theorem getmethsm_ok {X : Cx} {pins : List (Addr × Obj)} {σ : L2.St} {H : Hp} {s : Shared} {C g : Addr} {mc : Value} {m : Str} {A : Around} {E : Value → Shared → Prop} {pl : Sem Bool} {Q : Value × List Value → Shared → Prop} (I : Inv X pins σ H s) (k : SMet X.K C mc m g)
    (h : ∀ s', Inv X pins σ H s' → Q (.ref g, []) s') : wpAny (model X.prog X.w) A (getMethod (.ref C) m pl) Q E s := by
  obtain ⟨p, o, ha, rest, hp⟩ := k.at_
  refine PySem.W.method_cls I.kIn k.rd.ga (PySem.W.cls_bind I.kIn k.rd.rd ha ?_)
  refine wpAny_call (PySem.W.sm_get (s := { s with toks := s.toks + 1 }) I.kIn hp (PySem.W.handed_on rfl ?_))
  exact h _ (I.tok _)
section
variable {X : Cx} {CX : CXT} {k : Nat} {C g f : Addr} {mc : Value} {sp : Sp} {E : XK} {o e : Expr} {es : List Expr} {kws : List Keyword} {m x : Str} {pos apos p : Pos} {ta : TE} {t tk : TA} {pl : Sem Bool} {fd : FuncData} {ps ks : List Str}
/-- C.m(e, ..) -/
def tSMeth (C : Addr) (sp : Sp) (E : XK) (ta : TE) (t : TA) : TE := fun σ H Q => ta σ H fun x H1 => x = .ref C ∧ t σ H1 fun vs H2 => sp (vs ++ []) H2 Q E
theorem pe_smeth (he : PE X o ta) (c : SMet X.K C mc m g) (F : FnOk X.prog X.w X.K X.mg X.base CX k g fd ps sp) (hr : Room k X.A) (hb : Binds X.K fd ps []) (hx : Passes CX X E) (ha : PA X (e :: es) t)
    (hst : starEach (e :: es) X.env = (false, eval e X.env) :: starEach es X.env := by rfl) (hpl : (backTo pos (starEach es X.env)).any (·.1) = false := by rfl)
    (ht : eval (.Call (.Attribute o m apos) (e :: es) [] pos) X.env = (do
      let ov ← eval o X.env
      standAt apos.atName
      let (f, first) ← holding [ov] (getMethod ov m pl)
      callWith pos f first (backTo pos (starEach (e :: es) X.env)) (backToKw pos (keywordEach [] X.env))) := by rfl) :
    PE X (.Call (.Attribute o m apos) (e :: es) [] pos) (tSMeth C sp E ta t) := by
  refine ⟨fun pins s σ H Q I h => ?_⟩
  refine PySem.W.methodCall_KW (pl := pl) (thn (he.run pins s σ H _ I h) fun u s1 ⟨x, H1, I1, rx, ex, q⟩ => ?_) ht
  subst ex
  obtain rfl : u = Value.ref C := rx
  refine getmethsm_ok I1 c fun s2 I2 => ?_
  refine PySem.W.callWith_K (first := []) (h₀ := X.base) I.ok.mod.kin c.kp (thn (ha.run pos pins s2 σ H1 _ I2 q) fun us s3 ⟨vs, H2, I3, r, q2⟩ => ⟨I3.kIn, ?_⟩) hst hpl
  exact run_fn F hr hb .nil hx I3 r q2
/-- C.m(k = v, ..) -/
def tSMethK (C : Addr) (sp : Sp) (gV : List V → List V → List V) (E : XK) (ta : TE) (tk : TA) : TE := fun σ H Q => ta σ H fun x H1 => x = .ref C ∧ tk σ H1 fun zs H2 => sp (gV [] zs) H2 Q E
variable {gg : List Value → List Value → List Value} {gV : List V → List V → List V}
theorem pe_smethK (he : PE X o ta) (c : SMet X.K C mc m g) (F : FnOk X.prog X.w X.K X.mg X.base CX k g fd ps sp) (hr : Room k X.A) (hb : KBinds X.K fd ps ks gg gV) (hx : Passes CX X E) (hkw : PK X kws tk)
    (hall : (backToKw pos (keywordEach kws X.env)).all (·.1.isSome) = true := by rfl) (hks : (backToKw pos (keywordEach kws X.env)).filterMap (·.1) = ks := by rfl)
    (hpl : ((backTo pos (starEach [] X.env)).any (·.1) || (backToKw pos (keywordEach kws X.env)).any (·.1.isNone)) = false := by rfl)
    (ht : eval (.Call (.Attribute o m apos) [] kws pos) X.env = (do
      let ov ← eval o X.env
      standAt apos.atName
      let (f, first) ← holding [ov] (getMethod ov m pl)
      callWith pos f first (backTo pos (starEach [] X.env)) (backToKw pos (keywordEach kws X.env))) := by rfl) :
    PE X (.Call (.Attribute o m apos) [] kws pos) (tSMethK C sp gV E ta tk) := by
  refine ⟨fun pins s σ H Q I h => ?_⟩
  refine PySem.W.methodCall_KW (pl := pl) (thn (he.run pins s σ H _ I h) fun u s1 ⟨x, H1, I1, rx, ex, q⟩ => ?_) ht
  subst ex
  obtain rfl : u = Value.ref C := rx
  refine getmethsm_ok I1 c fun s2 I2 => ?_
  refine PySem.W.callWith_KW0 (first := []) (h₀ := X.base) I.ok.mod.kin c.kp hall ?_ hpl
  refine thn (hkw.run pos pins s2 σ H1 _ I2 q) fun ws s3 ⟨zs, H2, I3, rz, q2⟩ => ⟨I3.kIn, ?_⟩
  rw [hks]
  exact run_fnk (us := []) (vs := []) F hr hb hx I3 .nil rz q2
/-- the i-th slot holds the class at C: x(e, ..) makes an instance -/
def tMakeL (i : Nat) (C : Addr) (sp : Sp) (E : XK) (t : TA) : TE := fun σ H Q => σ[i]? = some (some (.ref C)) ∧ tMake C sp [] E t σ H Q
theorem pe_makeL {i : Nat} (M : Mk X.K C f) (F : FnOk X.prog X.w X.K X.mg X.base CX k f fd ps sp) (hr : Room (k + 1) X.A) (hN : X.N[i]? = some x) (hv : Vis X.env.scope x) (hb : Binds X.K fd ps []) (hx : Passes CX X E)
    (ha : PA X (e :: es) t) (hdb : (x == ("__debug__" : Str)) = false := by decide) (hcd : (x == ("__classdict__" : Str)) = false := by decide) (he : starEach (e :: es) X.env = (false, eval e X.env) :: starEach es X.env := by rfl) (hpl : (backTo pos (starEach es X.env)).any (·.1) = false := by rfl) :
    PE X (.Call (.Name x p) (e :: es) [] pos) (tMakeL i C sp E t) := by
  refine ⟨fun pins s σ H Q I h => ?_⟩
  obtain ⟨hs, ht⟩ := h
  refine wpAny_Call_Name_kw (thn ((pe_var (pos := p) hN hv hdb hcd).run pins s σ H (fun v H1 => v = .ref C ∧ H1 = H) I ⟨.ref C, hs, rfl, rfl⟩) fun u s1 ⟨v, H1, I1, r1, q1⟩ => ?_)
  obtain ⟨rfl, rfl⟩ := q1
  cases r1
  refine PySem.W.callWith_K (h₀ := X.base) I.ok.mod.kin M.kp (thn (ha.run pos pins s1 σ _ _ I1 ht) fun us s2 ⟨vs, H2, I2, r, q⟩ => ⟨I2.kIn, ?_⟩) he hpl
  exact run_make M F hr hb .nil hx I2 r q
end

/-! ### a classmethod called with keywords -/
theorem fnR_of {P : Program} {w : World} {K : PySem.W.Frag} {mg : Str → Option Value} {base : Heap} {CX : CXT} {k : Nat} {f : Addr} {fd : FuncData} {ps : List Str} {sp : Sp} (F : FnOk P w K mg base CX k f fd ps sp) (hb : Binds K fd ps []) : FnR P w K mg base CX k f sp := by
  have h := FnOk.raw F hb (.nil : Vals [] [])
  refine FnR.imp h fun vs H Q E q => ?_
  show sp (vs ++ []) H Q E
  rw [List.append_nil]
  exact q
section
variable {X : Cx} {CX : CXT} {k : Nat} {C p g : Addr} {mc : Value} {sp : Sp} {E : XK} {o : Expr} {kws : List Keyword} {m : Str} {pos apos : Pos} {ta : TE} {tk : TA} {pl : Sem Bool} {fd : FuncData} {ps ks : List Str} {gg : List Value → List Value → List Value} {gV : List V → List V → List V}
def tCMethK (C : Addr) (sp : Sp) (gV : List V → List V → List V) (E : XK) (ta : TE) (tk : TA) : TE := fun σ H Q => ta σ H fun x H1 => x = .ref C ∧ tk σ H1 fun zs H2 => sp (gV [.ref C] zs) H2 Q E
theorem pe_cmethK (he : PE X o ta) (r : ClX.CRead X.K C mc) (c : ClX.CMet X.K C mc m p g) (F : FnOk X.prog X.w X.K X.mg X.base CX k g fd ps sp) (hr : Room k X.A) (hb : KBinds X.K fd ps ks gg gV) (hx : Passes CX X E) (hkw : PK X kws tk)
    (hall : (backToKw pos (keywordEach kws X.env)).all (·.1.isSome) = true := by rfl) (hks : (backToKw pos (keywordEach kws X.env)).filterMap (·.1) = ks := by rfl)
    (hpl : ((backTo pos (starEach [] X.env)).any (·.1) || (backToKw pos (keywordEach kws X.env)).any (·.1.isNone)) = false := by rfl)
    (ht : eval (.Call (.Attribute o m apos) [] kws pos) X.env = (do
      let ov ← eval o X.env
      standAt apos.atName
      let (f, first) ← holding [ov] (getMethod ov m pl)
      callWith pos f first (backTo pos (starEach [] X.env)) (backToKw pos (keywordEach kws X.env))) := by rfl) :
    PE X (.Call (.Attribute o m apos) [] kws pos) (tCMethK C sp gV E ta tk) := by
  refine ⟨fun pins s σ H Q I h => ?_⟩
  refine PySem.W.methodCall_KW (pl := pl) (thn (he.run pins s σ H _ I h) fun u s1 ⟨x, H1, I1, rx, ex, q⟩ => ?_) ht
  subst ex
  obtain rfl : u = Value.ref C := rx
  refine ClX.getmethcm_ok I1 r c fun s2 I2 => ?_
  refine PySem.W.callWith_of (P := PySem.W.MethP X.K s1.heap.objs.size g (.ref C)) hpl (PySem.W.keeps_M c.fi) (PyProof.Rows.evalArgs_kw2_nil hall ?_)
  refine thn (hkw.run pos _ s2 σ H1 _ I2 q) fun ws s3 ⟨zs, H2, I3, rz, q2⟩ => ⟨⟨ClX.pin_at I3, I3.kIn⟩, ?_⟩
  rw [hks]
  have r2 := hb.rel (vs := [V.ref C]) (us := [Value.ref C]) (.cons rfl .nil) rz
  have hl : (gg [Value.ref C] ws).length = ps.length := by rw [← r2.length]; exact F.len _ _ _ _ q2
  have z : wpAny (model X.prog X.w) X.A (call (.ref s1.heap.objs.size) [] (ks.zip ws)) (EP X ((s1.heap.objs.size, PySem.W.methodObj (.ref g) (.ref C)) :: pins) σ Q) X.xe s3 := by
    refine wpAny_call (PySem.W.method_call (ClX.pin_at I3) (codeAny_mono (F.run X.A X.stack s3 H2 ⟨[.ref C], ks.zip ws⟩ (gg [.ref C] ws) (gV [.ref C] zs) Q E hr I3.env0 (hb.to s3 [.ref C] ws I3.kIn hl) r2 q2) fun r s' hq => ?_))
    cases r with
    | error e => exact hx _ σ H2 s3 e s' I3 hq
    | ok fl =>
      cases fl with
      | ret u => exact I3.after hq
      | next => exact False.elim hq
      | brk => exact False.elim hq
      | cont => exact False.elim hq
  exact thn z fun _ _ y => ClX.unpinE y
end

/-! ### keywords in the order of the parameters -/
def kperm_0_10 {α : Type} : List α → List α → List α
  | [], [x, y] => [y, x]
  | _, _ => []
def kperm_1_0 {α : Type} : List α → List α → List α
  | [c], [x] => [c, x]
  | _, _ => []
section
variable {K : PySem.W.Frag} {x qual : Str} {st : Stmt} {f : Addr} {fd : FuncData}
theorem kperm_0_10_kb {p0 p1 k0 k1 : Str} (F : Fun K x qual st f fd) (h : ∀ (kV doc pm : Value) (an : Option Addr) (cdv ct : Value) (u v : Value), bindArgs (PySem.W.fnOf x qual (defArgs st) (defBody st) (defScope st) .none kV doc pm an cdv ct) ⟨[], [(k0, u), (k1, v)]⟩ = pure [(p0, v), (p1, u)]) :
    KBinds K fd [p0, p1] [k0, k1] kperm_0_10 kperm_0_10 := by
  obtain ⟨oc, od, kV, doc, pm, an, cdv, ct, osl, rfl, lk, hcd⟩ := F.ex
  refine ⟨fun s us ws _ hl => ?_, fun {vs us zs ws} r r2 => ?_⟩
  · match us, ws, hl with
    | [], [u, v], _ => exact .of_eq (h kV doc pm an cdv ct u v)
    | [], [], hl => simp [kperm_0_10] at hl
    | [], [_], hl => simp [kperm_0_10] at hl
    | [], _ :: _ :: _ :: _, hl => simp [kperm_0_10] at hl
    | _ :: _, _, hl => simp [kperm_0_10] at hl
  · cases r with
    | cons _ _ => exact .nil
    | nil =>
      cases r2 with
      | nil => exact .nil
      | cons a r2 =>
        cases r2 with
        | nil => exact .nil
        | cons b r2 =>
          cases r2 with
          | nil => exact .cons b (.cons a .nil)
          | cons _ _ => exact .nil
theorem kperm_1_0_kb {p0 p1 k0 : Str} (F : Fun K x qual st f fd) (h : ∀ (kV doc pm : Value) (an : Option Addr) (cdv ct : Value) (u v : Value), bindArgs (PySem.W.fnOf x qual (defArgs st) (defBody st) (defScope st) .none kV doc pm an cdv ct) ⟨[u], [(k0, v)]⟩ = pure [(p0, u), (p1, v)]) :
    KBinds K fd [p0, p1] [k0] kperm_1_0 kperm_1_0 := by
  obtain ⟨oc, od, kV, doc, pm, an, cdv, ct, osl, rfl, lk, hcd⟩ := F.ex
  refine ⟨fun s us ws _ hl => ?_, fun {vs us zs ws} r r2 => ?_⟩
  · match us, ws, hl with
    | [u], [v], _ => exact .of_eq (h kV doc pm an cdv ct u v)
    | [], _, hl => simp [kperm_1_0] at hl
    | [_], [], hl => simp [kperm_1_0] at hl
    | [_], _ :: _ :: _, hl => simp [kperm_1_0] at hl
    | _ :: _ :: _, _, hl => simp [kperm_1_0] at hl
  · cases r with
    | nil => exact .nil
    | cons a r =>
      cases r with
      | cons _ _ => exact .nil
      | nil =>
        cases r2 with
        | nil => exact .nil
        | cons b r2 =>
          cases r2 with
          | nil => exact .cons a (.cons b .nil)
          | cons _ _ => exact .nil
end

/-! ### isinstance against an own class -/
structure TyC (K : PySem.W.Frag) (C : Addr) : Prop where
  cl : Cls K C
  hc : PySem.W.findIn K (.ref C) "__class__" = some (some (.builtin "object.__class__"))
  hn : PySem.W.specialIn K (.builtin "object.__class__") "__get__" = some (some (.builtin "getset_descriptor.__get__"))
  ht : PySem.W.takesIn K (.builtin "object.__class__") = some true
  mo : PySem.W.mroIn K C (.type "object") = some true
  ic : PySem.W.isClsIn K C = true
  ty : PySem.W.typeIn K (.ref C) = some (.type "type")
theorem TyC.at {K : PySem.W.Frag} {C : Addr} (T : TyC K C) {H : Hp} {a dx : Addr} {fs : List (Str × V)} (e : H a = some (.ins C dx fs)) : TyOf K H (.ref a) (.ref C) := .ins e T.cl T.hc T.hn T.ht T.mo
theorem kit_self {K : PySem.W.Frag} {C : Addr} : PySem.W.kitOne K (.ref C) (.ref C) = some true := by
  unfold PySem.W.kitOne
  rw [if_pos (by simp)]
theorem TyC.kit {K : PySem.W.Frag} {C : Addr} (T : TyC K C) {t : Value} {b : Bool} (h : PySem.W.subIn K t (.ref C) = some b) (hne : (t == .ref C) = false) : PySem.W.kitOne K t (.ref C) = some b := by
  unfold PySem.W.kitOne
  rw [if_neg (by rw [hne]; decide)]
  unfold PySem.W.kitCls
  have h1 : (PySem.W.clsIn K C).isSome = true := T.ic
  have e : ((PySem.W.clsIn K C).isSome && PySem.W.typeIn K (.ref C) == some (.type "type")) = true := by
    rw [h1, T.ty] <;> rfl
  show (if ((PySem.W.clsIn K C).isSome && PySem.W.typeIn K (.ref C) == some (.type "type")) = true then PySem.W.subIn K t (.ref C) else none) = some b
  rw [if_pos e, h]
end Hk

/-! The readings, step by step: one lemma a combinator, and words that try them. -/
namespace Hk
open PySem PySem.Spec PyProof.Rows L2

theorem cxK {CX : CXT} {P : Program} {w : World} {K : PySem.W.Frag} {mg : Str → Option Value} {base : Heap} {N : List Str} {qual : Str} {scope : Scope} {f : Addr} {cd : Value} {A : Around} {outer : List Env} {s : Shared} {H : Hp} {E : XK} :
    (cxOf CX P w K mg base N qual scope f cd A outer s H E).K = K := rfl

/-! ### names for the built-ins' readings -/
def rLenSeq (K : PySem.W.Frag) : List V → Hp → VK → Prop := fun xs H Q => ∃ p ys, xs = [.ref p] ∧ (SqL K H p ys ∨ SqT K H p ys) ∧ Q (.int ys.length) H
theorem call_lenSeq {X : Cx} : CallR X (.builtin "len") (rLenSeq X.K) := call_len_seq
def rLenStr : List V → Hp → VK → Prop := fun xs H Q => ∃ z, xs = [.str z] ∧ z.length ≤ sizeLine ∧ Q (.int z.length) H
theorem call_lenStr {X : Cx} : CallR X (.builtin "len") rLenStr := call_len_str
def rAbs : List V → Hp → VK → Prop := fun xs H Q => ∃ i, xs = [.int i] ∧ Q (.int (if i < 0 then -i else i)) H
theorem call_absI {X : Cx} : CallR X (.builtin "abs") rAbs := call_abs
def rInt1 : List V → Hp → VK → Prop := fun xs H Q => (∃ i, xs = [.int i] ∧ Q (.int i) H) ∨ ∃ k, xs = [.bl k] ∧ Q (.int (if k then 1 else 0)) H
theorem call_intI {X : Cx} : CallR X (.type "int") rInt1 := call_int1
def rMaxI : List V → Hp → VK → Prop := fun xs H Q => ∃ i j, xs = [.int i, .int j] ∧ Q (.int (if j > i then j else i)) H
theorem call_maxI {X : Cx} (hc : X.calm = true) : CallR X (.builtin "max") rMaxI := call_max2 hc
def rMinI : List V → Hp → VK → Prop := fun xs H Q => ∃ i j, xs = [.int i, .int j] ∧ Q (.int (if j < i then j else i)) H
theorem call_minI {X : Cx} (hc : X.calm = true) : CallR X (.builtin "min") rMinI := call_min2 hc
def rStrS : List V → Hp → VK → Prop := fun xs H Q => ∃ a, xs = [.str a] ∧ Q (.str a) H
theorem call_strS {X : Cx} : CallR X (.type "str") rStrS := SkE.call_str_str
def rListOf (K : PySem.W.Frag) : List V → Hp → VK → Prop := fun xs H Q => ∃ p ys, xs = [.ref p] ∧ (SqL K H p ys ∨ SqT K H p ys) ∧ ∀ l, H l = none → Q (.ref l) (upd H l (.lst ys))
theorem call_listOf {X : Cx} : CallR X (.type "list") (rListOf X.K) := call_list_of
def rTupOf (K : PySem.W.Frag) : List V → Hp → VK → Prop := fun xs H Q => ∃ p ys, xs = [.ref p] ∧ ((SqL K H p ys ∧ ∀ l, H l = none → Q (.ref l) (upd H l (.tup ys))) ∨ (SqT K H p ys ∧ Q (.ref p) H))
theorem call_tupOf {X : Cx} : CallR X (.type "tuple") (rTupOf X.K) := call_tuple_of
def rAddStr : R2 := fun x y H Q => ∃ i j, x = .str i ∧ y = .str j ∧ i.length + j.length ≤ sizeLine ∧ Q (.str (i ++ j)) H
theorem op_addStr {X : Cx} : OpR X (binaryOp .Add) rAddStr := op_add_str
def rInSign : R2 := fun x y H Q => ∃ (c : Nat) (z : Str), x = .str ⟨#[c]⟩ ∧ y = .str z ∧ Q (.bl (decide (c ∈ z.cps.toList))) H
theorem op_inSign {X : Cx} : OpR X (compareOp .In) rInSign := op_in_sign
def rNotInSign : R2 := fun x y H Q => ∃ (c : Nat) (z : Str), x = .str ⟨#[c]⟩ ∧ y = .str z ∧ Q (.bl (!decide (c ∈ z.cps.toList))) H
theorem op_notInSign {X : Cx} : OpR X (compareOp .NotIn) rNotInSign := op_notIn_sign
def rIsNone : R2 := fun x y H Q => y = .non ∧ Q (.bl (decide (x = .non))) H
def rNotNone : R2 := fun x y H Q => y = .non ∧ Q (.bl (!decide (x = .non))) H
theorem op_isNone {X : Cx} : OpR X (compareOp .Is) rIsNone := op_isN
theorem op_notNone {X : Cx} : OpR X (compareOp .IsNot) rNotNone := op_notN

/-! ### heaps -/
section
variable {H H1 H2 : Hp} {p q : Addr} {o u : HO}
theorem upd_new (hq : H q = none) (h : H p = some o) : upd H q u p = some o := by
  rw [upd_ne (ne_of_none h hq)]
  exact h
theorem upd_old (hq : p ≠ q) (h : H p = some o) : upd H q u p = some o := by
  rw [upd_ne hq]
  exact h
theorem upd_oldN (hq : p ≠ q) (h : H p = none) : upd H q u p = none := by
  rw [upd_ne hq]
  exact h
theorem ne_new (hq : H q = none) (h : H p = some o) : p ≠ q := ne_of_none h hq
theorem ne_new' (hq : H q = none) (h : H p = some o) : q ≠ p := (ne_of_none h hq).symm
theorem same_new (h : H q = none) : Same H (upd H q u) := fun b o e => upd_new h e
theorem same_mut (e : Same H H1) (h : H q = none) : Same H (upd H1 q u) := fun b o z => by
  rw [upd_ne (ne_of_none z h)]
  exact e b o z
theorem same_ext (e : Same H H1) (h : H1 q = none) : Same H (upd H1 q u) := e.trans (same_new h)
theorem same_step (e : Same H1 H2) (h : Same H H1) : Same H H2 := h.trans e
theorem same_at (e : Same H H1) (h : H p = some o) : H1 p = some o := e _ _ h
theorem same_none (e : Same H H1) (h : H1 q = none) : H q = none := e.free h
theorem sqL_of {K : PySem.W.Frag} {xs : List V} (h : H p = some (.lst xs)) : SqL K H p xs := .inl (.inl h)
theorem sqT_of {K : PySem.W.Frag} {xs : List V} (h : H p = some (.tup xs)) : SqT K H p xs := .inl (.inl h)
theorem sqT_same {K : PySem.W.Frag} {xs : List V} (e : Same H H1) (h : SqT K H p xs) : SqT K H1 p xs := by
  rcases h with (h | ⟨o, h⟩) | h
  · exact .inl (.inl (e _ _ h))
  · exact .inl (.inr ⟨o, e _ _ h⟩)
  · exact .inr h
/-- a list that is read, behind a store elsewhere -/
theorem sqL_upd {K : PySem.W.Frag} {xs : List V} (hq : p ≠ q) (h : SqL K H p xs) : SqL K (upd H q u) p xs := by
  rcases h with (h | ⟨o, h⟩) | h
  · exact .inl (.inl (upd_old hq h))
  · exact .inl (.inr ⟨o, upd_old hq h⟩)
  · exact .inr h
/-- .. of something that is no list -/
theorem sqL_new {K : PySem.W.Frag} {xs : List V} (hq : H q = none) (h : SqL K H p xs) : SqL K (upd H q u) p xs := (same_new hq).seq h
end

/-! ### readings -/
section
variable {K : PySem.W.Frag} {σ : L2.St} {H : Hp} {Q : VK} {ta tb te tv : TE} {t u : TT} {v x y : V} {D : Ends} {nx bk ct : L2.St → Hp → Prop} {rt : VK} {t1 t2 tu : TS} {tt : TA} {g : TG} {i j : Int} {n : Nat} {f : Str} {b : Bool} {QB : Bool → Hp → Prop} {QA : List V → Hp → Prop} {k : L2.St → Hp → Prop}
theorem rd_seq (h : t1 ⟨t2 ⟨nx, rt, bk, ct⟩, rt, bk, ct⟩ σ H) : tSeq t1 t2 ⟨nx, rt, bk, ct⟩ σ H := h
theorem rd_cut (M : L2.St → Hp → Prop) (h : t1 ⟨M, rt, bk, ct⟩ σ H) (q : ∀ σ' H', M σ' H' → t2 ⟨nx, rt, bk, ct⟩ σ' H') : Evl.tCut t1 t2 ⟨nx, rt, bk, ct⟩ σ H := ⟨M, h, q⟩
theorem rd_asgN {m : Nat} (h : te σ H fun x H1 => t2 ⟨nx, rt, bk, ct⟩ (σ.set m (some x)) H1) : tSeq (tAsg te (gName m)) t2 ⟨nx, rt, bk, ct⟩ σ H := h
theorem rd_next (h : nx σ H) : tNext ⟨nx, rt, bk, ct⟩ σ H := h
theorem rd_asg (h : te σ H fun x H1 => g x σ H1 nx) : tAsg te g ⟨nx, rt, bk, ct⟩ σ H := h
theorem rd_gname (h : k (σ.set n (some v)) H) : gName n v σ H k := h
theorem rd_drop (h : te σ H fun _ H1 => nx σ H1) : tDrop te ⟨nx, rt, bk, ct⟩ σ H := h
theorem rd_ret (h : te σ H rt) : tRet te ⟨nx, rt, bk, ct⟩ σ H := h
theorem rd_retN (h : rt .non H) : tRetN ⟨nx, rt, bk, ct⟩ σ H := h
theorem rd_brk (h : bk σ H) : tBreak ⟨nx, rt, bk, ct⟩ σ H := h
theorem rd_cont (h : ct σ H) : tCont ⟨nx, rt, bk, ct⟩ σ H := h
theorem rd_ifS {c : TT} (h : c σ H fun b H1 => if b = true then t1 ⟨nx, rt, bk, ct⟩ σ H1 else t2 ⟨nx, rt, bk, ct⟩ σ H1) : tIfS c t1 t2 ⟨nx, rt, bk, ct⟩ σ H := h
theorem rd_parA {n m : Nat} (h : tt σ H fun vs H1 => ∃ v w, vs = [v, w] ∧ nx ((σ.set n (some v)).set m (some w)) H1) : tPar n m tt ⟨nx, rt, bk, ct⟩ σ H := h
theorem rd_par3A {n m l : Nat} (h : tt σ H fun vs H1 => ∃ u v w, vs = [u, v, w] ∧ nx (((σ.set n (some u)).set m (some v)).set l (some w)) H1) : tPar3 n m l tt ⟨nx, rt, bk, ct⟩ σ H := h
theorem rd_par3 {u v w : V} {P : V → V → V → Prop} (h : P u v w) : ∃ u' v' w', [u, v, w] = [u', v', w'] ∧ P u' v' w' := ⟨u, v, w, rfl, h⟩
theorem rd_whileN {c : TT} {tb : TS} (W : Nat → L2.St → Hp → Prop) (m : Nat) (w0 : W m σ H) (hs : ∀ m σ H, W m σ H → c σ H fun b H1 => if b = true then ∃ N : L2.St → Hp → Prop, (∀ σ' H', N σ' H' → ∃ m', m' < m ∧ W m' σ' H') ∧ tb ⟨N, rt, nx, N⟩ σ H1 else nx σ H1) : tWhile c tb ⟨nx, rt, bk, ct⟩ σ H := ⟨W, ⟨m, w0⟩, hs⟩
theorem rd_par2 {v w : V} {P : V → V → Prop} (h : P v w) : ∃ v' w', [v, w] = [v', w'] ∧ P v' w' := ⟨v, w, rfl, h⟩
theorem rd_var (e : σ[n]? = some (some v)) (h : Q v H) : tVar n σ H Q := ⟨v, e, h⟩
theorem rd_c (h : Q v H) : tC v σ H Q := h
theorem rd_op {r : R2} (h : ta σ H fun x H1 => tb σ H1 fun y H2 => r x y H2 Q) : tOp r ta tb σ H Q := h
theorem rd_un {r : V → Hp → VK → Prop} (h : ta σ H fun x H1 => r x H1 Q) : tUn r ta σ H Q := h
theorem rd_cb {r : List V → Hp → VK → Prop} (h : tt σ H fun vs H1 => r vs H1 Q) : tCB r tt σ H Q := h
theorem rd_cons (h : te σ H fun x H1 => tt σ H1 fun xs H2 => QA (x :: xs) H2) : tCons te tt σ H QA := h
theorem rd_nil (h : QA [] H) : tNil σ H QA := h
theorem rd_test (h : te σ H fun x H' => ∃ k, x = .bl k ∧ QB k H') : tTest te σ H QB := h
theorem rd_B (h : te σ H fun x H' => ∃ k, x = .bl k ∧ QB k H') : tB te σ H QB := h
theorem rd_bl {P : Bool → Prop} (h : P b) : ∃ k, V.bl b = .bl k ∧ P k := ⟨b, rfl, h⟩
theorem rd_and (h : t σ H fun c H1 => if c = true then u σ H1 QB else QB false H1) : tAnd t u σ H QB := h
theorem rd_or (h : t σ H fun c H1 => if c = true then QB true H1 else u σ H1 QB) : tOr t u σ H QB := h
theorem rd_not (h : t σ H fun c H1 => QB (!c) H1) : tNot t σ H QB := h
theorem rd_andV (h : ta σ H fun x H1 => ∃ c, x = .bl c ∧ if c = true then tb σ H1 Q else Q (.bl false) H1) : tAndV ta tb σ H Q := h
theorem rd_orV (h : ta σ H fun x H1 => ∃ c, x = .bl c ∧ if c = true then Q (.bl true) H1 else tb σ H1 Q) : tOrV ta tb σ H Q := h
theorem rd_notV (h : ta σ H fun x H1 => ∃ c, x = .bl c ∧ Q (.bl (!c)) H1) : tNotV ta σ H Q := h
theorem rd_if (h : t σ H fun c H1 => if c = true then ta σ H1 Q else tb σ H1 Q) : tIf t ta tb σ H Q := h
theorem rd_I0 {g : Int → Int → V} (h : Q (g i j) H) : rI0 g (.int i) (.int j) H Q := ⟨i, j, rfl, rfl, h⟩
theorem rd_I {C : Int → Int → Prop} {g : Int → Int → V} (c : C i j) (h : Q (g i j) H) : rI C g (.int i) (.int j) H Q := ⟨i, j, rfl, rfl, c, h⟩
theorem rd_mod (c : 0 < j) (h : Q (.int (i % j)) H) : rI (fun _ j => 0 < j) (fun i j => .int (i % j)) (.int i) (.int j) H Q := ⟨i, j, rfl, rfl, c, h⟩
theorem cdivW (h : 0 < j) (hb : j < 2 ^ 100) : CDivW i j := wide_div (b := 100) h (by
  have e : ((2 : Int) ^ 100) = ((2 ^ 100 : Nat) : Int) := by decide
  rw [e] at hb
  omega) (by decide) (by decide)
theorem rd_div (c : 0 < j) (c2 : j < 2 ^ 100) (h : Q (.int (i / j)) H) : rI CDivW (fun i j => .int (i / j)) (.int i) (.int j) H Q := ⟨i, j, rfl, rfl, cdivW c c2, h⟩
theorem rd_mulR (c : -(2 ^ 64) < j) (c2 : j < 2 ^ 64) (h : Q (.int (i * j)) H) : rI CMul (fun i j => .int (i * j)) (.int i) (.int j) H Q := ⟨i, j, rfl, rfl, .inr ⟨c, c2⟩, h⟩
theorem rd_mulL (c : -(2 ^ 64) < i) (c2 : i < 2 ^ 64) (h : Q (.int (i * j)) H) : rI CMul (fun i j => .int (i * j)) (.int i) (.int j) H Q := ⟨i, j, rfl, rfl, .inl ⟨c, c2⟩, h⟩
theorem rd_pow (c : CPow i j) (h : Q (.int (i ^ j.toNat)) H) : rI CPow (fun i j => .int (i ^ j.toNat)) (.int i) (.int j) H Q := ⟨i, j, rfl, rfl, c, h⟩
theorem rd_U {g : Int → V} (h : Q (g i) H) : rU g (.int i) H Q := ⟨i, rfl, h⟩
theorem rd_eq (e : scal x y = true) (h : Q (.bl (decide (x = y))) H) : rEq x y H Q := ⟨e, h⟩
theorem rd_ne (e : scal x y = true) (h : Q (.bl (!decide (x = y))) H) : rNe x y H Q := ⟨e, h⟩
theorem rd_isNone (h : Q (.bl (decide (x = .non))) H) : rIsNone x .non H Q := ⟨rfl, h⟩
theorem rd_notNone (h : Q (.bl (!decide (x = .non))) H) : rNotNone x .non H Q := ⟨rfl, h⟩
theorem rd_ixL {p : Addr} {xs : List V} (h : SqL K H p xs) (e : atI xs i = some v) (q : Q v H) : rIxL K (.ref p) (.int i) H Q := ⟨p, xs, i, v, rfl, rfl, h, e, q⟩
theorem rd_ixT {p : Addr} {xs : List V} (h : SqT K H p xs) (e : atI xs i = some v) (q : Q v H) : rIxT K (.ref p) (.int i) H Q := ⟨p, xs, i, v, rfl, rfl, h, e, q⟩
theorem rd_ixS {z : Str} {c : Nat} (hz : z.length ≤ sizeLine) (e : atI z.cps.toList i = some c) (q : Q (.str ⟨#[c]⟩) H) : rIxS (.str z) (.int i) H Q := ⟨z, i, c, rfl, rfl, hz, e, q⟩
theorem rd_lenL {p : Addr} {xs : List V} (h : SqL K H p xs) (q : Q (.int xs.length) H) : rLenSeq K [.ref p] H Q := ⟨p, xs, rfl, .inl h, q⟩
theorem rd_lenT {p : Addr} {xs : List V} (h : SqT K H p xs) (q : Q (.int xs.length) H) : rLenSeq K [.ref p] H Q := ⟨p, xs, rfl, .inr h, q⟩
theorem rd_lenS {z : Str} (hz : z.length ≤ sizeLine) (q : Q (.int z.length) H) : rLenStr [.str z] H Q := ⟨z, rfl, hz, q⟩
theorem rd_abs (q : Q (.int (if i < 0 then -i else i)) H) : rAbs [.int i] H Q := ⟨i, rfl, q⟩
theorem rd_int (q : Q (.int i) H) : rInt1 [.int i] H Q := .inl ⟨i, rfl, q⟩
theorem rd_max (q : Q (.int (if j > i then j else i)) H) : rMaxI [.int i, .int j] H Q := ⟨i, j, rfl, q⟩
theorem rd_min (q : Q (.int (if j < i then j else i)) H) : rMinI [.int i, .int j] H Q := ⟨i, j, rfl, q⟩
theorem rd_strS {z : Str} (q : Q (.str z) H) : rStrS [.str z] H Q := ⟨z, rfl, q⟩
theorem rd_listL {p : Addr} {xs : List V} (h : SqL K H p xs) (q : ∀ l, H l = none → Q (.ref l) (upd H l (.lst xs))) : rListOf K [.ref p] H Q := ⟨p, xs, rfl, .inl h, q⟩
theorem rd_listT {p : Addr} {xs : List V} (h : SqT K H p xs) (q : ∀ l, H l = none → Q (.ref l) (upd H l (.lst xs))) : rListOf K [.ref p] H Q := ⟨p, xs, rfl, .inr h, q⟩
theorem rd_tupL {p : Addr} {xs : List V} (h : SqL K H p xs) (q : ∀ l, H l = none → Q (.ref l) (upd H l (.tup xs))) : rTupOf K [.ref p] H Q := ⟨p, xs, rfl, .inl ⟨h, q⟩⟩
theorem rd_tupT {p : Addr} {xs : List V} (h : SqT K H p xs) (q : Q (.ref p) H) : rTupOf K [.ref p] H Q := ⟨p, xs, rfl, .inr ⟨h, q⟩⟩
theorem rd_addS {z w : Str} (hz : z.length + w.length ≤ sizeLine) (q : Q (.str (z ++ w)) H) : rAddStr (.str z) (.str w) H Q := ⟨z, w, rfl, rfl, hz, q⟩
theorem rd_inSign {c : Nat} {z : Str} (q : Q (.bl (decide (c ∈ z.cps.toList))) H) : rInSign (.str ⟨#[c]⟩) (.str z) H Q := ⟨c, z, rfl, rfl, q⟩
theorem rd_notInSign {c : Nat} {z : Str} (q : Q (.bl (!decide (c ∈ z.cps.toList))) H) : rNotInSign (.str ⟨#[c]⟩) (.str z) H Q := ⟨c, z, rfl, rfl, q⟩
theorem rd_tup (h : tt σ H fun xs H1 => xs.length ≤ sizeLine ∧ ∀ p, H1 p = none → Q (.ref p) (upd H1 p (.tup xs))) : tTup tt σ H Q := h
theorem rd_lst (h : tt σ H fun xs H1 => xs.length ≤ sizeLine ∧ ∀ p, H1 p = none → Q (.ref p) (upd H1 p (.lst xs))) : tLst tt σ H Q := h
theorem sz_of {n : Nat} (h : n ≤ 100000) : n ≤ sizeLine := Nat.le_trans h (by decide)
theorem sz_lt {n : Nat} (h : n < 100000) : n < sizeLine := Nat.lt_of_lt_of_le h (by decide)
theorem rd_new {xs : List V} {P : Addr → Prop} (e : xs.length ≤ sizeLine) (h : ∀ p, P p) : xs.length ≤ sizeLine ∧ ∀ p, P p := ⟨e, h⟩
theorem rd_slL {p : Addr} {xs : List V} {lo hi : Option Int} (h : SqL K H p xs) (q : ∀ l, H l = none → Q (.ref l) (upd H l (.lst (cutV xs lo hi)))) : rSlL K (.ref p) lo hi H Q := ⟨p, xs, rfl, h, q⟩
theorem rd_slS {z : Str} {lo hi : Option Int} (hz : z.length ≤ sizeLine) (q : Q (.str (cutS z lo hi)) H) : rSlS (.str z) lo hi H Q := ⟨z, rfl, hz, q⟩
theorem rd_sl {r : V → Option Int → Option Int → Hp → VK → Prop} {tl th : TO} (h : te σ H fun x H1 => tl σ H1 fun l H2 => th σ H2 fun u H3 => r x l u H3 Q) : tSl r te tl th σ H Q := h
theorem rd_noPart {P : Option Int → Hp → Prop} (h : P none H) : tNoPart σ H P := h
theorem rd_part {P : Option Int → Hp → Prop} (h : te σ H fun x H1 => ∃ i, x = .int i ∧ P (some i) H1) : tPart te σ H P := h
theorem rd_isInt {P : Int → Prop} (h : P i) : ∃ k, V.int i = .int k ∧ P k := ⟨i, rfl, h⟩
/-- an attribute -/
def FldK (K : PySem.W.Frag) (f : Str) (x : V) (H : Hp) (Q : VK) : Prop := ∃ a C dx fs v, x = .ref a ∧ H a = some (.ins C dx fs) ∧ Cls K C ∧ NoAttr K C f ∧ fs.lookup f = some v ∧ Q v H
theorem rd_fld (h : ta σ H fun x H1 => FldK K f x H1 Q) : tFld K ta f σ H Q := h
theorem rd_fldK {a C dx : Addr} {fs : List (Str × V)} (e : H a = some (.ins C dx fs)) (c : Cls K C) (n : NoAttr K C f) (l : fs.lookup f = some v) (q : Q v H) : FldK K f (.ref a) H Q := ⟨a, C, dx, fs, v, rfl, e, c, n, l, q⟩
def SFldK (K : PySem.W.Frag) (f : Str) (y x : V) (H : Hp) (P : Hp → Prop) : Prop := ∃ a C dx fs, x = .ref a ∧ H a = some (.ins C dx fs) ∧ Cls K C ∧ NoAttr K C f ∧ fs.length < 1000 ∧ P (upd H a (.ins C dx (putF f y fs)))
theorem rd_sfld (h : tv σ H fun y H1 => ta σ H1 fun x H2 => SFldK K f y x H2 (nx σ)) : sFld K ta tv f ⟨nx, rt, bk, ct⟩ σ H := h
theorem rd_sfldK {a C dx : Addr} {fs : List (Str × V)} {P : Hp → Prop} (e : H a = some (.ins C dx fs)) (c : Cls K C) (n : NoAttr K C f) (l : fs.length < 1000) (q : P (upd H a (.ins C dx (putF f y fs)))) : SFldK K f y (.ref a) H P := ⟨a, C, dx, fs, rfl, e, c, n, l, q⟩
/-- e.f += n, ints -/
theorem rd_sfldAdd {a C dx : Addr} {fs : List (Str × V)} (ha : ta σ H fun x H1 => x = .ref a ∧ H1 = H) (e : H a = some (.ins C dx fs)) (c : Cls K C) (n : NoAttr K C f) (l : fs.lookup f = some (.int i)) (hv : tv σ H fun y H1 => y = .int j ∧ H1 = H)
    (mt : ∀ Q Q' : VK, (∀ v H, Q v H → Q' v H) → tv σ H Q → tv σ H Q') (ma : ∀ Q Q' : VK, (∀ v H, Q v H → Q' v H) → ta σ H Q → ta σ H Q') (hl : fs.length < 1000) (q : D.nx σ (upd H a (.ins C dx (putF f (.int (i + j)) fs)))) : sFldAug K ta tv rAdd f D σ H :=
  ma _ _ (fun x H1 ⟨ex, eh⟩ => by
    subst ex eh
    refine ⟨a, C, dx, fs, .int i, rfl, e, c, n, l, mt _ _ (fun y H2 ⟨ey, eh⟩ => ?_) hv⟩
    subst ey eh
    exact ⟨i, j, rfl, rfl, dx, fs, e, hl, q⟩) ha
def AugK (K : PySem.W.Frag) (f : Str) (tv : TE) (rd : V → V → Hp → VK → Prop) (σ : L2.St) (x : V) (H1 : Hp) (P : Hp → Prop) : Prop := ∃ a C dx fs v, x = .ref a ∧ H1 a = some (.ins C dx fs) ∧ Cls K C ∧ NoAttr K C f ∧ fs.lookup f = some v ∧
  tv σ H1 fun y H2 => rd v y H2 fun z H3 => ∃ dx' fs', H3 a = some (.ins C dx' fs') ∧ fs'.length < 1000 ∧ P (upd H3 a (.ins C dx' (putF f z fs')))
theorem rd_aug {rd : V → V → Hp → VK → Prop} (h : ta σ H fun x H1 => AugK K f tv rd σ x H1 (nx σ)) : sFldAug K ta tv rd f ⟨nx, rt, bk, ct⟩ σ H := h
theorem rd_augK {rd : V → V → Hp → VK → Prop} {a C dx : Addr} {fs : List (Str × V)} {P : Hp → Prop} (e : H a = some (.ins C dx fs)) (c : Cls K C) (n : NoAttr K C f) (l : fs.lookup f = some v)
    (q : tv σ H fun y H2 => rd v y H2 fun z H3 => ∃ dx' fs', H3 a = some (.ins C dx' fs') ∧ fs'.length < 1000 ∧ P (upd H3 a (.ins C dx' (putF f z fs')))) : AugK K f tv rd σ (.ref a) H P := ⟨a, C, dx, fs, v, rfl, e, c, n, l, q⟩
theorem rd_rAdd (q : Q (.int (i + j)) H) : rAdd (.int i) (.int j) H Q := ⟨i, j, rfl, rfl, q⟩
theorem rd_augE {a C dx : Addr} {fs : List (Str × V)} {P : Addr → List (Str × V) → Prop} (e : H a = some (.ins C dx fs)) (l : fs.length < 1000) (q : P dx fs) : ∃ dx' fs', H a = some (.ins C dx' fs') ∧ fs'.length < 1000 ∧ P dx' fs' := ⟨dx, fs, e, l, q⟩
/-- calls -/
theorem rd_call {sp : Sp} {E : XK} (h : tt σ H fun vs H1 => sp (vs ++ []) H1 Q E) : tCall sp [] E tt σ H Q := h
def MethK (C : Addr) (m : Str) (sp : Sp) (E : XK) (t : TA) (σ : L2.St) (x : V) (H1 : Hp) (Q : VK) : Prop := ∃ a dx fs, x = .ref a ∧ H1 a = some (.ins C dx fs) ∧ fs.lookup m = none ∧ t σ H1 fun vs H2 => sp (x :: (vs ++ [])) H2 Q E
theorem rd_meth {C : Addr} {m : Str} {sp : Sp} {E : XK} (h : ta σ H fun x H1 => MethK C m sp E tt σ x H1 Q) : tMeth C m sp [] E ta tt σ H Q := h
theorem rd_methK {C a dx : Addr} {m : Str} {sp : Sp} {E : XK} {fs : List (Str × V)} (e : H a = some (.ins C dx fs)) (l : fs.lookup m = none) (q : tt σ H fun vs H2 => sp (.ref a :: (vs ++ [])) H2 Q E) : MethK C m sp E tt σ (.ref a) H Q := ⟨a, dx, fs, rfl, e, l, q⟩
theorem rd_make {C : Addr} {sp : Sp} {E : XK} (h : tt σ H fun vs H1 => ∀ x dx, H1 x = none → H1 dx = none → dx ≠ x → sp (.ref x :: (vs ++ [])) (upd (upd H1 dx (.own x)) x (.ins C dx [])) (fun v H2 => v = .non ∧ Q (.ref x) H2) E) : tMake C sp [] E tt σ H Q := h
theorem rd_makeL {C : Addr} {sp : Sp} {E : XK} (e : σ[n]? = some (some (.ref C))) (h : tMake C sp [] E tt σ H Q) : tMakeL n C sp E tt σ H Q := ⟨e, h⟩
theorem rd_smeth {C : Addr} {sp : Sp} {E : XK} (h : ta σ H fun x H1 => x = .ref C ∧ tt σ H1 fun vs H2 => sp (vs ++ []) H2 Q E) : tSMeth C sp E ta tt σ H Q := h
theorem rd_isC {C : Addr} {P : Prop} (h : P) : V.ref C = .ref C ∧ P := ⟨rfl, h⟩
theorem rd_smethK {C : Addr} {sp : Sp} {E : XK} {gV : List V → List V → List V} (h : ta σ H fun x H1 => x = .ref C ∧ tt σ H1 fun zs H2 => sp (gV [] zs) H2 Q E) : tSMethK C sp gV E ta tt σ H Q := h
theorem rd_cmeth {C : Addr} {sp : Sp} {E : XK} (h : ta σ H fun x H1 => x = .ref C ∧ tt σ H1 fun vs H2 => sp (.ref C :: vs) H2 Q E) : ClX.tCMeth C sp E ta tt σ H Q := h
theorem rd_cmethK {C : Addr} {sp : Sp} {E : XK} {gV : List V → List V → List V} (h : ta σ H fun x H1 => x = .ref C ∧ tt σ H1 fun zs H2 => sp (gV [.ref C] zs) H2 Q E) : tCMethK C sp gV E ta tt σ H Q := h
/-- methods of built-in types -/
def BmK (K : PySem.W.Frag) (T : String) (r : V → List V → Hp → VK → Prop) (t : TA) (σ : L2.St) (x : V) (H1 : Hp) (Q : VK) : Prop := tyV K T x H1 ∧ t σ H1 fun xs H2 => r x xs H2 Q
theorem rd_bm {T : String} {r : V → List V → Hp → VK → Prop} (h : ta σ H fun x H1 => BmK K T r tt σ x H1 Q) : tBM K T r ta tt σ H Q := h
theorem rd_bmL {r : V → List V → Hp → VK → Prop} {p : Addr} {xs : List V} (e : H p = some (.lst xs)) (q : tt σ H fun xs H2 => r (.ref p) xs H2 Q) : BmK K "list" r tt σ (.ref p) H Q := ⟨.inl ⟨rfl, _, SqL.of e⟩, q⟩
def Bm0K (K : PySem.W.Frag) (T : String) (r : V → List V → Hp → VK → Prop) (x : V) (H1 : Hp) (Q : VK) : Prop := tyV K T x H1 ∧ r x [] H1 Q
theorem rd_bm0 {T : String} {r : V → List V → Hp → VK → Prop} (h : ta σ H fun x H1 => Bm0K K T r x H1 Q) : tBM0 K T r ta σ H Q := h
theorem rd_bm0L {r : V → List V → Hp → VK → Prop} {p : Addr} {xs : List V} (e : H p = some (.lst xs)) (q : r (.ref p) [] H Q) : Bm0K K "list" r (.ref p) H Q := ⟨.inl ⟨rfl, _, SqL.of e⟩, q⟩
theorem rd_append {p : Addr} {xs : List V} (e : H p = some (.lst xs)) (l : xs.length < sizeLine) (q : Q .non (upd H p (.lst (xs ++ [y])))) : rAppend (.ref p) [y] H Q := ⟨p, xs, y, rfl, rfl, e, l, q⟩
theorem rd_clear {p : Addr} {xs : List V} (e : H p = some (.lst xs)) (q : Q .non (upd H p (.lst []))) : rClear (.ref p) [] H Q := ⟨p, xs, rfl, rfl, e, q⟩
theorem rd_pop {p : Addr} {xs : List V} (e : H p = some (.lst xs)) (l : xs[xs.length - 1]? = some y) (q : Q y (upd H p (.lst xs.dropLast))) : rPop (.ref p) [] H Q := ⟨p, xs, y, rfl, rfl, e, l, q⟩
theorem rd_popAt {p : Addr} {xs : List V} {k : Nat} (e : H p = some (.lst xs)) (hk : xs[k]? = some y) (hb : xs.length ≤ 100000) (q : Q y (upd H p (.lst (xs.eraseIdx k)))) : rPopAt (.ref p) [.int (k : Nat)] H Q := by
  have hl := (List.getElem?_eq_some_iff.mp hk).1
  refine ⟨p, xs, (k : Nat), k, y, rfl, rfl, e, by omega, by omega, ?_, hk, q⟩
  unfold seqIndex?
  have hn : ¬ ((k : Nat) : Int) < 0 := by omega
  simp only [if_neg hn]
  simp
  omega
theorem rd_cat {p r : Addr} {xs ys : List V} (e : H p = some (.lst xs)) (e2 : H r = some (.lst ys)) (hb : xs.length + ys.length ≤ 100000) (q : ∀ l, H l = none → Q (.ref l) (upd H l (.lst (xs ++ ys)))) : rCat (.ref p) (.ref r) H Q := ⟨p, r, xs, ys, rfl, rfl, e, e2, sz_of hb, q⟩
theorem rd_all {p : Addr} {bs : List Bool} (h : SqL K H p (bs.map V.bl)) (q : Q (.bl (bs.all id)) H) : rAll K [.ref p] H Q := ⟨p, bs, rfl, h, q⟩
theorem rd_m1 {r : V → List V → Hp → VK → Prop} (h : ta σ H fun x H1 => (∃ a, x = .str a) ∧ tb σ H1 fun y H2 => r x [y] H2 Q) : tM1 r ta tb σ H Q := h
theorem rd_isStr {z : Str} {P : Prop} (h : P) : (∃ a, V.str z = .str a) ∧ P := ⟨⟨z, rfl⟩, h⟩
def CValK (K : PySem.W.Frag) (f : Str) (x : V) (H : Hp) (Q : VK) : Prop := ∃ C mc v u, x = .ref C ∧ ClX.CRead K C mc ∧ ClX.CVal K C mc f v u ∧ Q v H
theorem rd_cval (h : ta σ H fun x H1 => CValK K f x H1 Q) : ClX.tCVal K ta f σ H Q := h
theorem rd_cvalK {C : Addr} {mc u : Value} (r : ClX.CRead K C mc) (c : ClX.CVal K C mc f v u) (q : Q v H) : CValK K f (.ref C) H Q := ⟨C, mc, v, u, rfl, r, c, q⟩
theorem rd_setL {p : Addr} {xs : List V} {m : Nat} {P : Hp → Prop} (e : H p = some (.lst xs)) (l : ixN xs.length i = some m) (q : P (upd H p (.lst (xs.set m v)))) : rSetL (.ref p) (.int i) v H P := ⟨p, xs, i, m, rfl, rfl, e, l, q⟩
theorem rd_gsub {to ti : TE} {ts : TSet} (h : to σ H fun o H1 => ti σ H1 fun i H2 => ts o i v H2 fun H3 => k σ H3) : gSub to ti ts v σ H k := h
theorem rd_gtup {a : Addr} {xs : List V} {m : Nat} {ts : TGs} (e : SqT K H a xs) (l : xs.length = m) (q : ts xs σ H k) : gTup K m ts (.ref a) σ H k := ⟨a, xs, rfl, e, l, q⟩
theorem rd_gcons {r : List V} {ts : TGs} (h : g v σ H fun σ' H' => ts r σ' H' k) : gCons g ts (v :: r) σ H k := ⟨v, r, rfl, h⟩
theorem rd_gnil (h : k σ H) : gNil [] σ H k := ⟨rfl, h⟩
theorem rd_isi {x c : V} {t u : Value} (k : ClsV c u) (ty : TyX K H x t) (e : PySem.W.kitOne K t u = some b) (q : Q (.bl b) H) : rIsi K [x, c] H Q := ⟨x, c, t, u, b, rfl, k, ty, e, q⟩
theorem rd_inSeqL {p : Addr} {xs : List V} {neg : Bool} (h : SqL K H p xs) (fx : flatV x = true) (fa : xs.all flatV = true) (q : Q (.bl (if neg then !inV x xs else inV x xs)) H) : rIn K neg x (.ref p) H Q := ⟨p, xs, rfl, .inl h, fx, fa, q⟩
theorem rd_inSeqT {p : Addr} {xs : List V} {neg : Bool} (h : SqT K H p xs) (fx : flatV x = true) (fa : xs.all flatV = true) (q : Q (.bl (if neg then !inV x xs else inV x xs)) H) : rIn K neg x (.ref p) H Q := ⟨p, xs, rfl, .inr h, fx, fa, q⟩
theorem rd_eqD {d e : PyData} (hx : Dp K H x d) (hy : Dp K H y e) (s1 : SeqAt.shaped d = true) (s2 : SeqAt.shaped e = true) (q : Q (.bl (PyData.eqv d e)) H) : rEqD K x y H Q := ⟨d, e, hx, hy, s1, s2, q⟩
theorem rd_neD {d e : PyData} (hx : Dp K H x d) (hy : Dp K H y e) (s1 : SeqAt.shaped d = true) (s2 : SeqAt.shaped e = true) (q : Q (.bl (!PyData.eqv d e)) H) : rNeD K x y H Q := ⟨d, e, hx, hy, s1, s2, q⟩
theorem ifT {A B : Prop} (e : b = true) (h : A) : if b = true then A else B := by
  rw [if_pos e]
  exact h
theorem ifF {A B : Prop} (e : b = false) (h : B) : if b = true then A else B := by
  rw [e, if_neg Bool.false_ne_true]
  exact h
theorem ifB {A B : Prop} (h1 : b = true → A) (h2 : b = false → B) : if b = true then A else B := by
  cases b with
  | true => exact ifT rfl (h1 rfl)
  | false => exact ifF rfl (h2 rfl)
/-- an if on a decision -/
theorem ifD {c : Prop} [Decidable c] {A B : Prop} (h1 : c → A) (h2 : ¬ c → B) : if decide c = true then A else B := by
  by_cases h : c
  · exact ifT (decide_eq_true h) (h1 h)
  · exact ifF (decide_eq_false h) (h2 h)
theorem ifN {c : Prop} [Decidable c] {A B : Prop} (h1 : ¬ c → A) (h2 : c → B) : if (!decide c) = true then A else B := by
  by_cases h : c
  · exact ifF (by rw [decide_eq_true h]; rfl) (h2 h)
  · exact ifT (by rw [decide_eq_false h]; rfl) (h1 h)
end

/-! ### loops -/
def ForK (J : It) (g : TG) (tb : TS) (D : Ends) (σ : L2.St) (H1 : Hp) : Prop := ∃ W : Nat → Nat → L2.St → Hp → Prop, (∃ m, W 0 m σ H1) ∧ ∀ i m σ H, W i m σ H →
  (J.stop i H ∧ D.nx σ H) ∨ (J.go i H ∧ ∃ N : L2.St → Hp → Prop, (∀ σ' H', N σ' H' → ∃ m', m' < m ∧ W (i + 1) m' σ' H') ∧ ∀ x H', J.yld i H x H' → g x σ H' fun σ2 H2 => tb { D with nx := N, ct := N, bk := D.nx } σ2 H2)
section
variable {K : PySem.W.Frag} {σ : L2.St} {H : Hp} {g : TG} {tb : TS} {D : Ends} {nx bk ct : L2.St → Hp → Prop} {rt : VK} {a : Addr} {xs : List V} {tl : TE} {ta : TA} {R : It → Hp → Prop}
theorem rd_for {wi : TI} (h : wi σ H fun J H1 => ForK J g tb ⟨nx, rt, bk, ct⟩ σ H1) : tFor wi g tb ⟨nx, rt, bk, ct⟩ σ H := h
def IList (K : PySem.W.Frag) (x : V) (H : Hp) (R : It → Hp → Prop) : Prop := ∃ a, x = .ref a ∧ (∃ xs, SqL K H a xs) ∧ R (Itl K a) H
def ITup (K : PySem.W.Frag) (x : V) (H : Hp) (R : It → Hp → Prop) : Prop := ∃ a, x = .ref a ∧ (∃ xs, SqT K H a xs) ∧ R (Itt K a) H
theorem rd_iList (h : tl σ H fun x H1 => IList K x H1 R) : iList K tl σ H R := h
theorem rd_IList (h : SqL K H a xs) (q : R (Itl K a) H) : IList K (.ref a) H R := ⟨a, rfl, ⟨xs, h⟩, q⟩
theorem rd_iTup (h : tl σ H fun x H1 => ITup K x H1 R) : iTup K tl σ H R := h
theorem rd_ITup (h : SqT K H a xs) (q : R (Itt K a) H) : ITup K (.ref a) H R := ⟨a, rfl, ⟨xs, h⟩, q⟩
def IEnum (K : PySem.W.Frag) (vs : List V) (H : Hp) (R : It → Hp → Prop) : Prop := ∃ a xs, vs = [.ref a] ∧ SqL K H a xs ∧ R (Ite K a) H
theorem rd_iEnum (h : ta σ H fun vs H1 => IEnum K vs H1 R) : iEnum K ta σ H R := h
theorem rd_IEnum (h : SqL K H a xs) (q : R (Ite K a) H) : IEnum K [.ref a] H R := ⟨a, xs, rfl, h, q⟩
def IRng1 (vs : List V) (H : Hp) (R : It → Hp → Prop) : Prop := ∃ j : Int, vs = [.int j] ∧ -(2 ^ 62) ≤ j ∧ j < 2 ^ 62 ∧ R (Itr 0 j.toNat) H
theorem rd_iRng1 (h : ta σ H fun vs H1 => IRng1 vs H1 R) : iRng1 ta σ H R := h
theorem rd_IRng1 {j : Int} (h : -(2 ^ 62) ≤ j) (h2 : j < 2 ^ 62) (q : R (Itr 0 j.toNat) H) : IRng1 [.int j] H R := ⟨j, rfl, h, h2, q⟩
def IRng2 (vs : List V) (H : Hp) (R : It → Hp → Prop) : Prop := ∃ i j : Int, vs = [.int i, .int j] ∧ (-(2 ^ 62) ≤ i ∧ i < 2 ^ 62 ∧ -(2 ^ 62) ≤ j ∧ j < 2 ^ 62) ∧ R (Itr i (j - i).toNat) H
theorem rd_iRng2 (h : ta σ H fun vs H1 => IRng2 vs H1 R) : iRng2 ta σ H R := h
theorem rd_IRng2 {i j : Int} (h : -(2 ^ 62) ≤ i ∧ i < 2 ^ 62 ∧ -(2 ^ 62) ≤ j ∧ j < 2 ^ 62) (q : R (Itr i (j - i).toNat) H) : IRng2 [.int i, .int j] H R := ⟨i, j, rfl, h, q⟩
theorem fk_list (Pv : Nat → L2.St → Hp → Prop) (h0 : Pv 0 σ H) (hl : ∀ i σ H, i ≤ xs.length → Pv i σ H → SqL K H a xs)
    (hs : ∀ i x σ H, xs[i]? = some x → Pv i σ H → g x σ H fun σ2 H2 => tb ⟨Pv (i + 1), rt, nx, Pv (i + 1)⟩ σ2 H2) (hd : ∀ σ H, Pv xs.length σ H → nx σ H) : ForK (Itl K a) g tb ⟨nx, rt, bk, ct⟩ σ H := for_list Pv h0 hl hs hd
theorem fk_tup (Pv : Nat → L2.St → Hp → Prop) (h0 : Pv 0 σ H) (hl : ∀ i σ H, i ≤ xs.length → Pv i σ H → SqT K H a xs)
    (hs : ∀ i x σ H, xs[i]? = some x → Pv i σ H → g x σ H fun σ2 H2 => tb ⟨Pv (i + 1), rt, nx, Pv (i + 1)⟩ σ2 H2) (hd : ∀ σ H, Pv xs.length σ H → nx σ H) : ForK (Itt K a) g tb ⟨nx, rt, bk, ct⟩ σ H := for_tup Pv h0 hl hs hd
theorem fk_range {n : Nat} (Pv : Nat → L2.St → Hp → Prop) (h0 : Pv 0 σ H)
    (hs : ∀ (i : Nat) σ H, i < n → Pv i σ H → g (.int (i : Int)) σ H fun σ2 H2 => tb ⟨Pv (i + 1), rt, nx, Pv (i + 1)⟩ σ2 H2) (hd : ∀ σ H, Pv n σ H → nx σ H) : ForK (Itr 0 n) g tb ⟨nx, rt, bk, ct⟩ σ H :=
  for_range Pv h0 (fun i σ H hi p => by
    have e : (0 : Int) + (i : Int) = (i : Int) := Int.zero_add _
    rw [e]
    exact hs i σ H hi p) hd
theorem fk_range2 {lo : Int} {n : Nat} (Pv : Nat → L2.St → Hp → Prop) (h0 : Pv 0 σ H)
    (hs : ∀ (i : Nat) σ H, i < n → Pv i σ H → g (.int (lo + (i : Int))) σ H fun σ2 H2 => tb ⟨Pv (i + 1), rt, nx, Pv (i + 1)⟩ σ2 H2) (hd : ∀ σ H, Pv n σ H → nx σ H) : ForK (Itr lo n) g tb ⟨nx, rt, bk, ct⟩ σ H :=
  for_range Pv h0 hs hd
theorem fk_enum (Pv : Nat → L2.St → Hp → Prop) (h0 : Pv 0 σ H) (hl : ∀ i σ H, i ≤ xs.length → Pv i σ H → SqL K H a xs)
    (hs : ∀ (i : Nat) x T σ H, xs[i]? = some x → H T = none → Pv i σ H → g (.ref T) σ (upd H T (.tup [.int (i : Nat), x])) fun σ2 H2 => tb ⟨Pv (i + 1), rt, nx, Pv (i + 1)⟩ σ2 H2) (hd : ∀ σ H, Pv xs.length σ H → nx σ H) : ForK (Ite K a) g tb ⟨nx, rt, bk, ct⟩ σ H := by
  refine ⟨fun i m σ H => m = xs.length - i ∧ i ≤ xs.length ∧ Pv i σ H, ⟨xs.length, by simp, Nat.zero_le _, h0⟩, ?_⟩
  rintro i m σ H ⟨rfl, hi, p⟩
  have q := hl i σ H hi p
  by_cases hlt : i < xs.length
  · refine .inr ⟨⟨xs, xs[i], q, by simp [hlt]⟩, Pv (i + 1), fun σ' H' p' => ⟨xs.length - (i + 1), by omega, rfl, hlt, p'⟩, fun x H' y => ?_⟩
    obtain ⟨T, z, rfl, hT, rfl, y⟩ := y
    exact hs i z T σ _ (y xs q) hT p
  · have e : i = xs.length := by omega
    subst e
    exact .inl ⟨⟨xs, q, Nat.le_refl _⟩, hd σ H p⟩
/-! ### comprehensions -/
def LcK (J : It) (g : TG) (tt : TT) (te : TE) (vs : List Nat) (σ : L2.St) (H1 : Hp) (Q : VK) : Prop := ∀ D, H1 D = none → ∃ W : Nat → Nat → Hp → Prop, (∃ m, W 0 m (upd H1 D (.lst []))) ∧ ∀ i m H, W i m H →
  (J.stop i H ∧ Q (.ref D) H) ∨ (J.go i H ∧ ∃ Nx : Hp → Prop, (∀ H', Nx H' → ∃ m', m' < m ∧ W (i + 1) m' H') ∧ ∀ x H', J.yld i H x H' → g x (wipe σ vs) H' fun σ2 H2 => wipe σ2 vs = wipe σ vs ∧ tt σ2 H2 fun b H3 =>
    if b = true then te σ2 H3 fun y H4 => ∃ acc, H4 D = some (.lst acc) ∧ acc.length < sizeLine ∧ Nx (upd H4 D (.lst (acc ++ [y]))) else Nx H3)
variable {tt : TT} {te : TE} {vs : List Nat} {Q : VK}
theorem rd_lc {wi : TI} (h : wi σ H fun J H1 => LcK J g tt te vs σ H1 Q) : tLc wi g tt te vs σ H Q := h
/-- what stands in the new list behind n turns -/
theorem filter_take_succ {ρ : Type} {rows : List ρ} {i : Nat} {r : ρ} (f : ρ → Bool) (h : rows[i]? = some r) : (rows.take (i + 1)).filter f = (rows.take i).filter f ++ (if f r then [r] else []) := by
  rw [List.take_add_one, h, List.filter_append]
  congr 1
  simp [List.filter]
  split <;> simp_all
theorem small_len {ρ α : Type} {rows : List ρ} {n : Nat} (f : ρ → Bool) (v : ρ → α) (h : rows.length ≤ n) (i : Nat) : (((rows.take i).filter f).map v).length ≤ n := by
  rw [List.length_map]
  have h1 := List.length_filter_le f (rows.take i)
  have h2 : (rows.take i).length ≤ rows.length := by rw [List.length_take]; omega
  omega
theorem lcRows {ρ : Type} {rows : List ρ} {J : It} {n : Nat} (hn : n = rows.length) (hz : n ≤ 100000) (f : ρ → Bool) (v : ρ → V)
    (hst : ∀ H', Same H H' → J.stop n H') (hgo : ∀ i H', Same H H' → i < n → J.go i H')
    (turn : ∀ i r H1, rows[i]? = some r → Same H H1 → ∀ x H2, J.yld i H1 x H2 → ∀ (Done : Hp → Prop) (Kept : VK), (∀ H3, Same H1 H3 → f r = false → Done H3) → (∀ H3, Same H1 H3 → f r = true → Kept (v r) H3) →
      g x (wipe σ vs) H2 fun σ2 H2 => wipe σ2 vs = wipe σ vs ∧ tt σ2 H2 fun b H3 => if b = true then te σ2 H3 Kept else Done H3)
    (q : ∀ D H', H D = none → Same H H' → H' D = some (.lst ((rows.filter f).map v)) → Q (.ref D) H') : LcK J g tt te vs σ H Q := by
  intro D hD
  refine ⟨fun i m H' => m = n - i ∧ i ≤ n ∧ Same H H' ∧ H' D = some (.lst (((rows.take i).filter f).map v)), ⟨n, by simp, Nat.zero_le _, same_new hD, upd_same⟩, ?_⟩
  rintro i m H1 ⟨rfl, hi, s1, h1⟩
  by_cases hlt : i < n
  · refine .inr ⟨hgo i H1 s1 hlt, fun H' => i + 1 ≤ n ∧ Same H H' ∧ H' D = some (.lst (((rows.take (i + 1)).filter f).map v)), fun H' p' => ⟨n - (i + 1), by omega, rfl, p'⟩, fun x H2 y => ?_⟩
    have hr : i < rows.length := by omega
    refine turn i rows[i] H1 (List.getElem?_eq_getElem hr) s1 x H2 y _ _ (fun H3 s3 hf => ?_) (fun H3 s3 hf => ?_)
    · refine ⟨hlt, s1.trans s3, ?_⟩
      rw [filter_take_succ f (List.getElem?_eq_getElem hr), hf]
      simp only [Bool.false_eq_true, if_false, List.append_nil]
      exact s3 _ _ h1
    · refine ⟨_, s3 _ _ h1, ?_, hlt, same_mut (s1.trans s3) hD, ?_⟩
      · have := small_len (rows := rows) (n := n) f v (by omega) i
        rw [sizeLine_eq]
        omega
      · rw [filter_take_succ f (List.getElem?_eq_getElem hr), hf]
        simp only [if_true, List.map_append, List.map_cons, List.map_nil]
        exact upd_same
  · have e : i = n := by omega
    subst e
    refine .inl ⟨hst H1 s1, q D H1 hD s1 ?_⟩
    rw [h1, hn, List.take_length]
/-- over a list that stands -/
theorem lcL {ρ : Type} {rows : List ρ} (hn : xs.length = rows.length) (hz : xs.length ≤ 100000) (hx : SqL K H a xs) (f : ρ → Bool) (v : ρ → V)
    (turn : ∀ (i : Nat) x r H1, xs[i]? = some x → rows[i]? = some r → Same H H1 → ∀ (Done : Hp → Prop) (Kept : VK), (∀ H3, Same H1 H3 → f r = false → Done H3) → (∀ H3, Same H1 H3 → f r = true → Kept (v r) H3) →
      g x (wipe σ vs) H1 fun σ2 H2 => wipe σ2 vs = wipe σ vs ∧ tt σ2 H2 fun b H3 => if b = true then te σ2 H3 Kept else Done H3)
    (q : ∀ D H', H D = none → Same H H' → H' D = some (.lst ((rows.filter f).map v)) → Q (.ref D) H') : LcK (Itl K a) g tt te vs σ H Q := by
  refine lcRows hn hz f v (fun H' s => ⟨xs, s.seq hx, Nat.le_refl _⟩) (fun i H' s hi => ⟨xs, xs[i], s.seq hx, by simp [hi]⟩) (fun i r H1 hr s1 x H2 y Done Kept hd hk => ?_) q
  obtain ⟨rfl, y⟩ := y
  exact turn i x r _ (y xs (s1.seq hx)) hr s1 Done Kept hd hk
theorem lcT {ρ : Type} {rows : List ρ} (hn : xs.length = rows.length) (hz : xs.length ≤ 100000) (hx : SqT K H a xs) (f : ρ → Bool) (v : ρ → V)
    (turn : ∀ (i : Nat) x r H1, xs[i]? = some x → rows[i]? = some r → Same H H1 → ∀ (Done : Hp → Prop) (Kept : VK), (∀ H3, Same H1 H3 → f r = false → Done H3) → (∀ H3, Same H1 H3 → f r = true → Kept (v r) H3) →
      g x (wipe σ vs) H1 fun σ2 H2 => wipe σ2 vs = wipe σ vs ∧ tt σ2 H2 fun b H3 => if b = true then te σ2 H3 Kept else Done H3)
    (q : ∀ D H', H D = none → Same H H' → H' D = some (.lst ((rows.filter f).map v)) → Q (.ref D) H') : LcK (Itt K a) g tt te vs σ H Q := by
  refine lcRows hn hz f v (fun H' s => ⟨xs, sqT_same s hx, Nat.le_refl _⟩) (fun i H' s hi => ⟨xs, xs[i], sqT_same s hx, by simp [hi]⟩) (fun i r H1 hr s1 x H2 y Done Kept hd hk => ?_) q
  obtain ⟨rfl, y⟩ := y
  exact turn i x r _ (y xs (sqT_same s1 hx)) hr s1 Done Kept hd hk
theorem lcR {n : Nat} (hz : n ≤ 100000) (f : Nat → Bool) (v : Nat → V)
    (turn : ∀ (i : Nat) H1, i < n → Same H H1 → ∀ (Done : Hp → Prop) (Kept : VK), (∀ H3, Same H1 H3 → f i = false → Done H3) → (∀ H3, Same H1 H3 → f i = true → Kept (v i) H3) →
      g (.int (i : Int)) (wipe σ vs) H1 fun σ2 H2 => wipe σ2 vs = wipe σ vs ∧ tt σ2 H2 fun b H3 => if b = true then te σ2 H3 Kept else Done H3)
    (q : ∀ D H', H D = none → Same H H' → H' D = some (.lst (((List.range n).filter f).map v)) → Q (.ref D) H') : LcK (Itr 0 n) g tt te vs σ H Q := by
  refine lcRows (rows := List.range n) (by simp) hz f v (fun H' s => Nat.le_refl _) (fun i H' s hi => hi) (fun i r H1 hr s1 x H2 y Done Kept hd hk => ?_) q
  obtain ⟨rfl, rfl⟩ := y
  have hi : i < n := by
    have := (List.getElem?_eq_some_iff.mp hr).1
    simpa using this
  have er : r = i := by
    rw [List.getElem?_range hi] at hr
    exact (Option.some.inj hr).symm
  subst er
  have e : (0 : Int) + (r : Int) = (r : Int) := Int.zero_add _
  rw [e]
  exact turn r _ hi s1 Done Kept hd hk
theorem rd_yes {P : Bool → Hp → Prop} (h : P true H) : tYes σ H P := h
end
section
variable {K : PySem.W.Frag} {H : Hp} {Q : VK}
theorem kit_int_int : PySem.W.kitOne K (.type "int") (.type "int") = some true := kit_ty (by decide +kernel)
theorem kit_int_bool : PySem.W.kitOne K (.type "int") (.type "bool") = some false := kit_ty (by decide +kernel)
theorem kit_int_str : PySem.W.kitOne K (.type "int") (.type "str") = some false := kit_ty (by decide +kernel)
theorem kit_int_list : PySem.W.kitOne K (.type "int") (.type "list") = some false := kit_ty (by decide +kernel)
theorem kit_int_tuple : PySem.W.kitOne K (.type "int") (.type "tuple") = some false := kit_ty (by decide +kernel)
theorem kit_bool_int : PySem.W.kitOne K (.type "bool") (.type "int") = some true := kit_ty (by decide +kernel)
theorem kit_bool_bool : PySem.W.kitOne K (.type "bool") (.type "bool") = some true := kit_ty (by decide +kernel)
theorem kit_bool_str : PySem.W.kitOne K (.type "bool") (.type "str") = some false := kit_ty (by decide +kernel)
theorem kit_bool_list : PySem.W.kitOne K (.type "bool") (.type "list") = some false := kit_ty (by decide +kernel)
theorem kit_bool_tuple : PySem.W.kitOne K (.type "bool") (.type "tuple") = some false := kit_ty (by decide +kernel)
theorem kit_str_int : PySem.W.kitOne K (.type "str") (.type "int") = some false := kit_ty (by decide +kernel)
theorem kit_str_bool : PySem.W.kitOne K (.type "str") (.type "bool") = some false := kit_ty (by decide +kernel)
theorem kit_str_str : PySem.W.kitOne K (.type "str") (.type "str") = some true := kit_ty (by decide +kernel)
theorem kit_str_list : PySem.W.kitOne K (.type "str") (.type "list") = some false := kit_ty (by decide +kernel)
theorem kit_str_tuple : PySem.W.kitOne K (.type "str") (.type "tuple") = some false := kit_ty (by decide +kernel)
theorem kit_list_int : PySem.W.kitOne K (.type "list") (.type "int") = some false := kit_ty (by decide +kernel)
theorem kit_list_bool : PySem.W.kitOne K (.type "list") (.type "bool") = some false := kit_ty (by decide +kernel)
theorem kit_list_str : PySem.W.kitOne K (.type "list") (.type "str") = some false := kit_ty (by decide +kernel)
theorem kit_list_list : PySem.W.kitOne K (.type "list") (.type "list") = some true := kit_ty (by decide +kernel)
theorem kit_list_tuple : PySem.W.kitOne K (.type "list") (.type "tuple") = some false := kit_ty (by decide +kernel)
theorem kit_tuple_int : PySem.W.kitOne K (.type "tuple") (.type "int") = some false := kit_ty (by decide +kernel)
theorem kit_tuple_bool : PySem.W.kitOne K (.type "tuple") (.type "bool") = some false := kit_ty (by decide +kernel)
theorem kit_tuple_str : PySem.W.kitOne K (.type "tuple") (.type "str") = some false := kit_ty (by decide +kernel)
theorem kit_tuple_list : PySem.W.kitOne K (.type "tuple") (.type "list") = some false := kit_ty (by decide +kernel)
theorem kit_tuple_tuple : PySem.W.kitOne K (.type "tuple") (.type "tuple") = some true := kit_ty (by decide +kernel)
theorem kit_NoneType_int : PySem.W.kitOne K (.type "NoneType") (.type "int") = some false := kit_ty (by decide +kernel)
theorem kit_NoneType_bool : PySem.W.kitOne K (.type "NoneType") (.type "bool") = some false := kit_ty (by decide +kernel)
theorem kit_NoneType_str : PySem.W.kitOne K (.type "NoneType") (.type "str") = some false := kit_ty (by decide +kernel)
theorem kit_NoneType_list : PySem.W.kitOne K (.type "NoneType") (.type "list") = some false := kit_ty (by decide +kernel)
theorem kit_NoneType_tuple : PySem.W.kitOne K (.type "NoneType") (.type "tuple") = some false := kit_ty (by decide +kernel)
theorem rd_isi_int_int {i : Int} (q : Q (.bl true) H) : rIsi K [(.int i), .ty "int"] H Q := rd_isi (.ty _) (.base (.int _)) kit_int_int q
theorem rd_isi_int_bool {i : Int} (q : Q (.bl false) H) : rIsi K [(.int i), .ty "bool"] H Q := rd_isi (.ty _) (.base (.int _)) kit_int_bool q
theorem rd_isi_int_str {i : Int} (q : Q (.bl false) H) : rIsi K [(.int i), .ty "str"] H Q := rd_isi (.ty _) (.base (.int _)) kit_int_str q
theorem rd_isi_int_list {i : Int} (q : Q (.bl false) H) : rIsi K [(.int i), .ty "list"] H Q := rd_isi (.ty _) (.base (.int _)) kit_int_list q
theorem rd_isi_int_tuple {i : Int} (q : Q (.bl false) H) : rIsi K [(.int i), .ty "tuple"] H Q := rd_isi (.ty _) (.base (.int _)) kit_int_tuple q
theorem rd_isi_bool_int {i : Bool} (q : Q (.bl true) H) : rIsi K [(.bl i), .ty "int"] H Q := rd_isi (.ty _) (.base (.bl _)) kit_bool_int q
theorem rd_isi_bool_bool {i : Bool} (q : Q (.bl true) H) : rIsi K [(.bl i), .ty "bool"] H Q := rd_isi (.ty _) (.base (.bl _)) kit_bool_bool q
theorem rd_isi_bool_str {i : Bool} (q : Q (.bl false) H) : rIsi K [(.bl i), .ty "str"] H Q := rd_isi (.ty _) (.base (.bl _)) kit_bool_str q
theorem rd_isi_bool_list {i : Bool} (q : Q (.bl false) H) : rIsi K [(.bl i), .ty "list"] H Q := rd_isi (.ty _) (.base (.bl _)) kit_bool_list q
theorem rd_isi_bool_tuple {i : Bool} (q : Q (.bl false) H) : rIsi K [(.bl i), .ty "tuple"] H Q := rd_isi (.ty _) (.base (.bl _)) kit_bool_tuple q
theorem rd_isi_str_int {i : Str} (q : Q (.bl false) H) : rIsi K [(.str i), .ty "int"] H Q := rd_isi (.ty _) (.base (.str _)) kit_str_int q
theorem rd_isi_str_bool {i : Str} (q : Q (.bl false) H) : rIsi K [(.str i), .ty "bool"] H Q := rd_isi (.ty _) (.base (.str _)) kit_str_bool q
theorem rd_isi_str_str {i : Str} (q : Q (.bl true) H) : rIsi K [(.str i), .ty "str"] H Q := rd_isi (.ty _) (.base (.str _)) kit_str_str q
theorem rd_isi_str_list {i : Str} (q : Q (.bl false) H) : rIsi K [(.str i), .ty "list"] H Q := rd_isi (.ty _) (.base (.str _)) kit_str_list q
theorem rd_isi_str_tuple {i : Str} (q : Q (.bl false) H) : rIsi K [(.str i), .ty "tuple"] H Q := rd_isi (.ty _) (.base (.str _)) kit_str_tuple q
theorem rd_isi_list_int {p : Addr} {xs : List V} (e : H p = some (.lst xs)) (q : Q (.bl false) H) : rIsi K [(.ref p), .ty "int"] H Q := rd_isi (.ty _) (.base (.lst e)) kit_list_int q
theorem rd_isi_list_bool {p : Addr} {xs : List V} (e : H p = some (.lst xs)) (q : Q (.bl false) H) : rIsi K [(.ref p), .ty "bool"] H Q := rd_isi (.ty _) (.base (.lst e)) kit_list_bool q
theorem rd_isi_list_str {p : Addr} {xs : List V} (e : H p = some (.lst xs)) (q : Q (.bl false) H) : rIsi K [(.ref p), .ty "str"] H Q := rd_isi (.ty _) (.base (.lst e)) kit_list_str q
theorem rd_isi_list_list {p : Addr} {xs : List V} (e : H p = some (.lst xs)) (q : Q (.bl true) H) : rIsi K [(.ref p), .ty "list"] H Q := rd_isi (.ty _) (.base (.lst e)) kit_list_list q
theorem rd_isi_list_tuple {p : Addr} {xs : List V} (e : H p = some (.lst xs)) (q : Q (.bl false) H) : rIsi K [(.ref p), .ty "tuple"] H Q := rd_isi (.ty _) (.base (.lst e)) kit_list_tuple q
theorem rd_isi_tuple_int {p : Addr} {xs : List V} (e : H p = some (.tup xs)) (q : Q (.bl false) H) : rIsi K [(.ref p), .ty "int"] H Q := rd_isi (.ty _) (.base (.tup e)) kit_tuple_int q
theorem rd_isi_tuple_bool {p : Addr} {xs : List V} (e : H p = some (.tup xs)) (q : Q (.bl false) H) : rIsi K [(.ref p), .ty "bool"] H Q := rd_isi (.ty _) (.base (.tup e)) kit_tuple_bool q
theorem rd_isi_tuple_str {p : Addr} {xs : List V} (e : H p = some (.tup xs)) (q : Q (.bl false) H) : rIsi K [(.ref p), .ty "str"] H Q := rd_isi (.ty _) (.base (.tup e)) kit_tuple_str q
theorem rd_isi_tuple_list {p : Addr} {xs : List V} (e : H p = some (.tup xs)) (q : Q (.bl false) H) : rIsi K [(.ref p), .ty "list"] H Q := rd_isi (.ty _) (.base (.tup e)) kit_tuple_list q
theorem rd_isi_tuple_tuple {p : Addr} {xs : List V} (e : H p = some (.tup xs)) (q : Q (.bl true) H) : rIsi K [(.ref p), .ty "tuple"] H Q := rd_isi (.ty _) (.base (.tup e)) kit_tuple_tuple q
theorem rd_isi_NoneType_int  (q : Q (.bl false) H) : rIsi K [.non, .ty "int"] H Q := rd_isi (.ty _) (.base .non) kit_NoneType_int q
theorem rd_isi_NoneType_bool  (q : Q (.bl false) H) : rIsi K [.non, .ty "bool"] H Q := rd_isi (.ty _) (.base .non) kit_NoneType_bool q
theorem rd_isi_NoneType_str  (q : Q (.bl false) H) : rIsi K [.non, .ty "str"] H Q := rd_isi (.ty _) (.base .non) kit_NoneType_str q
theorem rd_isi_NoneType_list  (q : Q (.bl false) H) : rIsi K [.non, .ty "list"] H Q := rd_isi (.ty _) (.base .non) kit_NoneType_list q
theorem rd_isi_NoneType_tuple  (q : Q (.bl false) H) : rIsi K [.non, .ty "tuple"] H Q := rd_isi (.ty _) (.base .non) kit_NoneType_tuple q
theorem rd_isi_own {C a dx : Addr} {fs : List (Str × V)} (T : TyC K C) (e : H a = some (.ins C dx fs)) (q : Q (.bl true) H) : rIsi K [.ref a, .ref C] H Q := rd_isi (.own _) (.base (T.at e)) kit_self q
end
/-! ### texts by their codes -/
def tx (l : List Nat) : Str := ⟨l.toArray⟩
theorem tx_list (l : List Nat) : (tx l).cps.toList = l := rfl
theorem tx_len (l : List Nat) : (tx l).length = l.length := by simp [tx, Str.length]
theorem tx_app (l m : List Nat) : tx l ++ tx m = tx (l ++ m) := PyProof.Rows.str_of_list (by rw [PyProof.Rows.cps_toList_append]; rfl)
theorem tx_of (z : Str) : z = tx z.cps.toList := PyProof.Rows.str_of_list rfl
theorem tx_inj {l m : List Nat} : tx l = tx m ↔ l = m := ⟨fun h => by have := congrArg (fun z => z.cps.toList) h; exact this, fun h => by rw [h]⟩
def smalls : List Nat := [97, 98, 99, 100, 101, 102, 103, 104, 105, 106, 107, 108, 109, 110, 111, 112, 113, 114, 115, 116, 117, 118, 119, 120, 121, 122]
def capitals : List Nat := [65, 66, 67, 68, 69, 70, 71, 72, 73, 74, 75, 76, 77, 78, 79, 80, 81, 82, 83, 84, 85, 86, 87, 88, 89, 90]
theorem smalls_eq : (Str.ofString "abcdefghijklmnopqrstuvwxyz") = tx smalls := by decide +kernel
theorem capitals_eq : (Str.ofString "ABCDEFGHIJKLMNOPQRSTUVWXYZ") = tx capitals := by decide +kernel
theorem atI_mem {α : Type} {xs : List α} {i : Int} (h0 : 0 ≤ i) (h1 : i < (xs.length : Int)) : ∃ z, atI xs i = some z ∧ z ∈ xs := by
  have e : i.toNat < xs.length := by omega
  refine ⟨xs[i.toNat], ?_, List.getElem_mem e⟩
  unfold atI ixN
  rw [if_pos h0, if_pos h1]
  simp [e]
theorem empty_tx : Str.empty = tx [] := rfl
theorem sg_tx (c : Nat) : (⟨#[c]⟩ : Str) = tx [c] := rfl
section
variable {σ : L2.St} {H : Hp} {te : TE} {ts : List TE} {QS : Str → Hp → Prop} {Q : VK}
def JsK (ts : List TE) (acc : Str) (σ : L2.St) (x : V) (H1 : Hp) (Q : Str → Hp → Prop) : Prop := ∃ y : Str, x = .str y ∧ (acc ++ y).length ≤ sizeLine ∧ tJs ts (acc ++ y) σ H1 Q
theorem rd_jsC {acc : Str} (h : te σ H fun x H1 => JsK ts acc σ x H1 QS) : tJs (te :: ts) acc σ H QS := h
theorem rd_jsN {acc : Str} (h : QS acc H) : tJs [] acc σ H QS := h
theorem rd_JsK {l m : List Nat} (h : l.length + m.length ≤ 100000) (k : tJs ts (tx (l ++ m)) σ H QS) : JsK ts (tx l) σ (.str (tx m)) H QS := by
  have e : (tx (l ++ m)).length = l.length + m.length := by rw [tx_len, List.length_append]
  exact ⟨tx m, rfl, by rw [tx_app, e]; exact sz_of h, by rw [tx_app]; exact k⟩
def FmtK (x : V) (H1 : Hp) (Q : VK) : Prop := (∃ y : Str, x = .str y ∧ y.length ≤ sizeLine ∧ Q (.str y) H1) ∨ ∃ i : Int, x = .int i ∧ i.natAbs.log2 < 1920 ∧ Q (.str (toString i)) H1
theorem rd_fmt (h : te σ H fun x H1 => FmtK x H1 Q) : tFmt te σ H Q := h
theorem rd_fmtS {y : Str} (h : y.length ≤ sizeLine) (k : Q (.str y) H) : FmtK (.str y) H Q := .inl ⟨y, rfl, h, k⟩
theorem rd_fmtT {l : List Nat} (h : l.length ≤ 100000) (k : Q (.str (tx l)) H) : FmtK (.str (tx l)) H Q := .inl ⟨_, rfl, by rw [tx_len]; exact sz_of h, k⟩
theorem rd_addT {l m : List Nat} (hz : l.length + m.length ≤ 100000) (q : Q (.str (tx (l ++ m))) H) : rAddStr (.str (tx l)) (.str (tx m)) H Q := by
  refine rd_addS (by rw [tx_len, tx_len]; exact sz_of hz) ?_
  rw [tx_app]
  exact q
theorem rd_lenTx {l : List Nat} (hz : l.length ≤ 100000) (q : Q (.int (l.length : Nat)) H) : rLenStr [.str (tx l)] H Q := by
  refine rd_lenS (by rw [tx_len]; exact sz_of hz) ?_
  rw [tx_len]
  exact q
theorem eq_tx {l m : List Nat} : decide (V.str (tx l) = V.str (tx m)) = decide (l = m) := by
  have e : (V.str (tx l) = V.str (tx m)) ↔ l = m := ⟨fun h => tx_inj.mp (by injection h), fun h => by rw [h]⟩
  simp only [e]
theorem rd_eqTx {l m : List Nat} (q : Q (.bl (decide (l = m))) H) : rEq (.str (tx l)) (.str (tx m)) H Q := rd_eq rfl (by rw [eq_tx]; exact q)
theorem rd_neTx {l m : List Nat} (q : Q (.bl (!decide (l = m))) H) : rNe (.str (tx l)) (.str (tx m)) H Q := rd_ne rfl (by rw [eq_tx]; exact q)
theorem rd_inTx {c : Nat} {l : List Nat} (q : Q (.bl (decide (c ∈ l))) H) : rInSign (.str (tx [c])) (.str (tx l)) H Q := rd_inSign q
theorem rd_notInTx {c : Nat} {l : List Nat} (q : Q (.bl (!decide (c ∈ l))) H) : rNotInSign (.str (tx [c])) (.str (tx l)) H Q := rd_notInSign q
theorem atI_at {α : Type} {xs : List α} {i : Nat} {c : α} (h : xs[i]? = some c) : atI xs (i : Int) = some c := by
  have e := (List.getElem?_eq_some_iff.mp h).1
  unfold atI ixN
  rw [if_pos (by omega), if_pos (by omega)]
  simpa using h
theorem rd_ixTx {l : List Nat} {i : Nat} {c : Nat} (hz : l.length ≤ 100000) (h : l[i]? = some c) (q : Q (.str (tx [c])) H) : rIxS (.str (tx l)) (.int (i : Nat)) H Q := rd_ixS (by rw [tx_len]; exact sz_of hz) (atI_at h) q
theorem sIx_nat {n d i : Nat} (h : i ≤ n) : HT.sIx n d (some (i : Int)) = i := by
  rw [HT.sIx_nat]
  omega
theorem cutS_tx {l : List Nat} {i j : Nat} (hi : i ≤ l.length) (hj : j ≤ l.length) : cutS (tx l) (some (i : Int)) (some (j : Int)) = tx ((l.drop i).take (j - i)) := by
  unfold cutS
  rw [tx_len, sIx_nat hi, sIx_nat hj] <;> rfl
theorem rd_cutTx {l : List Nat} {i j : Nat} (hz : l.length ≤ 100000) (hi : i ≤ l.length) (hj : j ≤ l.length) (q : Q (.str (tx ((l.drop i).take (j - i)))) H) : rSlS (.str (tx l)) (some (i : Int)) (some (j : Int)) H Q := by
  refine rd_slS (by rw [tx_len]; exact sz_of hz) ?_
  rw [cutS_tx hi hj]
  exact q
end
section
variable {X : Cx} {K : PySem.W.Frag}
theorem ix_listK (h : X.K = K := by rfl) : IxR X (rIxL K) := h ▸ ix_list
theorem ix_tupK (h : X.K = K := by rfl) : IxR X (rIxT K) := h ▸ ix_tup
theorem op_inSeqK (h : X.K = K := by rfl) : OpR X (compareOp .In) (rIn K false) := h ▸ op_in_seq
theorem op_notInSeqK (h : X.K = K := by rfl) : OpR X (compareOp .NotIn) (rIn K true) := h ▸ op_notIn_seq
theorem op_eqDK (hu : X.A.units + 64 < cLine) (h : X.K = K := by rfl) : OpR X (compareOp .Eq) (rEqD K) := h ▸ op_eqD hu
theorem op_neDK (hu : X.A.units + 64 < cLine) (h : X.K = K := by rfl) : OpR X (compareOp .NotEq) (rNeD K) := h ▸ op_neD hu
theorem call_lenSeqK (h : X.K = K := by rfl) : CallR X (.builtin "len") (rLenSeq K) := h ▸ call_lenSeq
theorem call_listOfK (h : X.K = K := by rfl) : CallR X (.type "list") (rListOf K) := h ▸ call_listOf
theorem call_isi_K (h : X.K = K := by rfl) : CallR X (.builtin "isinstance") (rIsi K) := h ▸ call_isi
theorem pe_fldK {e : Expr} {f : Str} {pos : Pos} {ta : TE} (he : PE X e ta) (hb : attributeBase e f X.env (eval e X.env) = eval e X.env) (h : X.K = K := by rfl) : PE X (.Attribute e f pos) (tFld K ta f) := h ▸ pe_fld he hb
theorem pe_cvalK {e : Expr} {f : Str} {pos : Pos} {ta : TE} (he : PE X e ta) (hb : attributeBase e f X.env (eval e X.env) = eval e X.env := by rfl) (h : X.K = K := by rfl) : PE X (.Attribute e f pos) (ClX.tCVal K ta f) := h ▸ ClX.pe_cval he hb
end
/-! ### lists of texts -/
def wd (l : List Nat) : V := .str (tx l)
def wdD (l : List Nat) : PyData := .str (tx l)
def okT (l : List Nat) : Prop := ∀ c ∈ l, c < 128
theorem okT_str {l : List Nat} (h : okT l) : PyData.strOk (tx l) = true := by
  unfold PyData.strOk tx
  rw [Array.all_eq_true']
  intro x hx
  have := h x (by simpa using hx)
  simp
  omega
theorem wd_flat (ws : List (List Nat)) : (ws.map wd).all flatV = true := by
  rw [List.all_map, List.all_eq_true]
  intro x _
  rfl
theorem inV_wd (l : List Nat) (ws : List (List Nat)) : inV (.str (tx l)) (ws.map wd) = decide (l ∈ ws) := by
  unfold inV
  rw [List.any_map]
  induction ws with
  | nil => simp
  | cons m ws ih =>
    rw [List.any_cons, ih]
    show ((tx m == tx l) || decide (l ∈ ws)) = _
    by_cases h : m = l
    · subst h
      simp
    · have h1 : ¬ tx m = tx l := fun z => h (tx_inj.mp z)
      have h2 : ¬ l = m := fun z => h z.symm
      simp [h1, h2]
section
variable {K : PySem.W.Frag} {H : Hp} {Q : VK} {p : Addr} {l : List Nat} {ws vs : List (List Nat)}
theorem rd_inWL (h : SqL K H p (ws.map wd)) (q : Q (.bl (decide (l ∈ ws))) H) : rIn K false (.str (tx l)) (.ref p) H Q := rd_inSeqL h rfl (wd_flat ws) (by rw [inV_wd]; exact q)
theorem rd_inWT (h : SqT K H p (ws.map wd)) (q : Q (.bl (decide (l ∈ ws))) H) : rIn K false (.str (tx l)) (.ref p) H Q := rd_inSeqT h rfl (wd_flat ws) (by rw [inV_wd]; exact q)
theorem rd_notInWL (h : SqL K H p (ws.map wd)) (q : Q (.bl (!decide (l ∈ ws))) H) : rIn K true (.str (tx l)) (.ref p) H Q := rd_inSeqL h rfl (wd_flat ws) (by rw [inV_wd]; exact q)
theorem rd_notInWT (h : SqT K H p (ws.map wd)) (q : Q (.bl (!decide (l ∈ ws))) H) : rIn K true (.str (tx l)) (.ref p) H Q := rd_inSeqT h rfl (wd_flat ws) (by rw [inV_wd]; exact q)
theorem joinL_len (sep : List Nat) : ∀ ws : List (List Nat), (TL.joinL sep ws).length ≤ (ws.map (·.length)).sum + ws.length * sep.length
  | [] => by simp [TL.joinL]
  | [x] => by simp [TL.joinL]
  | x :: y :: ws => by
    have h := joinL_len sep (y :: ws)
    have e : TL.joinL sep (x :: y :: ws) = x ++ (sep ++ TL.joinL sep (y :: ws)) := by simp [TL.joinL]
    rw [e, List.length_append, List.length_append, List.map_cons, List.sum_cons, List.length_cons, Nat.succ_mul]
    omega
theorem wd_strs (ws : List (List Nat)) : ws.map wd = (ws.map tx).map V.str := by rw [List.map_map]; rfl
/-- what sep.join(..) asks -/
def JoinK (K : PySem.W.Frag) (x : V) (xs : List V) (H : Hp) (Q : VK) : Prop := ∃ a p, ∃ ys : List Str, x = .str a ∧ xs = [.ref p] ∧ (SqL K H p (ys.map V.str) ∨ SqT K H p (ys.map V.str)) ∧ (ys.map (·.length)).sum + ys.length * a.length ≤ 16777216 ∧ Q (.str (Txt.join a ys)) H
theorem rd_joinW {sep : List Nat} (h : SqL K H p (ws.map wd) ∨ SqT K H p (ws.map wd)) (hb : (ws.map (·.length)).sum + ws.length * sep.length ≤ 100000) (q : Q (.str (tx (TL.joinL sep ws))) H) : JoinK K (.str (tx sep)) [.ref p] H Q := by
  refine ⟨tx sep, p, ws.map tx, rfl, rfl, by rw [← wd_strs]; exact h, ?_, ?_⟩
  · have e : (ws.map tx).map (·.length) = ws.map (·.length) := SX.lens ws
    rw [e, List.length_map, tx_len]
    omega
  · have e : Txt.join (tx sep) (ws.map tx) = tx (TL.joinL sep ws) := SX.join_S sep ws
    rw [e]
    exact q
theorem wd_dp : ∀ ws : List (List Nat), DpAll K H (ws.map wd) (ws.map wdD)
  | [] => .nil
  | _ :: ws => .cons (.str _) (wd_dp ws)
theorem wdD_lay : ∀ ws : List (List Nat), (∀ w ∈ ws, okT w) → PyData.canLayAll0 (ws.map wdD) = true
  | [], _ => by simp [PyData.canLayAll0]
  | z :: zs, h => by simp [PyData.canLayAll0, wdD, PyData.canLay0, okT_str (h z (by simp)), wdD_lay zs fun p hp => h p (by simp [hp])]
theorem wdD_depth : ∀ ws : List (List Nat), PyData.depthAll (ws.map wdD) = 0
  | [] => by simp [PyData.depthAll]
  | z :: zs => by simp [PyData.depthAll, wdD, PyData.depth, wdD_depth zs]
theorem wdL_shaped (h : ∀ w ∈ ws, okT w) : SeqAt.shaped (.list (ws.map wdD)) = true := by
  show (PyData.canLay0 (.list (ws.map wdD)) && decide (PyData.depth (.list (ws.map wdD)) ≤ 64)) = true
  rw [Bool.and_eq_true]
  exact ⟨by simp only [PyData.canLay0]; exact wdD_lay ws h, decide_eq_true (by simp only [PyData.depth, wdD_depth]; omega)⟩
theorem wdT_shaped (h : ∀ w ∈ ws, okT w) : SeqAt.shaped (.tuple (ws.map wdD)) = true := by
  show (PyData.canLay0 (.tuple (ws.map wdD)) && decide (PyData.depth (.tuple (ws.map wdD)) ≤ 64)) = true
  rw [Bool.and_eq_true]
  exact ⟨by simp only [PyData.canLay0]; exact wdD_lay ws h, decide_eq_true (by simp only [PyData.depth, wdD_depth]; omega)⟩
theorem wdD_eqv : ∀ ws vs : List (List Nat), PyData.eqvAll (ws.map wdD) (vs.map wdD) = decide (ws = vs)
  | [], [] => by simp [PyData.eqvAll]
  | [], _ :: _ => by simp [PyData.eqvAll]
  | _ :: _, [] => by simp [PyData.eqvAll]
  | w :: ws, v :: vs => by
    have e : PyData.eqvAll ((w :: ws).map wdD) ((v :: vs).map wdD) = ((tx w == tx v) && PyData.eqvAll (ws.map wdD) (vs.map wdD)) := by simp only [List.map_cons, wdD, PyData.eqvAll, PyData.eqv]
    rw [e, wdD_eqv ws vs]
    by_cases h : w = v
    · subst h
      simp
    · have h1 : ¬ tx w = tx v := fun z => h (tx_inj.mp z)
      simp [h, h1]
theorem rd_eqWL {r : Addr} (h : SqL K H p (ws.map wd)) (h2 : SqL K H r (vs.map wd)) (o1 : ∀ w ∈ ws, okT w) (o2 : ∀ w ∈ vs, okT w) (q : Q (.bl (decide (ws = vs))) H) : rEqD K (.ref p) (.ref r) H Q :=
  rd_eqD (.lst h (wd_dp ws)) (.lst h2 (wd_dp vs)) (wdL_shaped o1) (wdL_shaped o2) (by rw [show PyData.eqv (.list (ws.map wdD)) (.list (vs.map wdD)) = PyData.eqvAll (ws.map wdD) (vs.map wdD) by simp only [PyData.eqv], wdD_eqv]; exact q)
theorem rd_neWL {r : Addr} (h : SqL K H p (ws.map wd)) (h2 : SqL K H r (vs.map wd)) (o1 : ∀ w ∈ ws, okT w) (o2 : ∀ w ∈ vs, okT w) (q : Q (.bl (!decide (ws = vs))) H) : rNeD K (.ref p) (.ref r) H Q :=
  rd_neD (.lst h (wd_dp ws)) (.lst h2 (wd_dp vs)) (wdL_shaped o1) (wdL_shaped o2) (by rw [show PyData.eqv (.list (ws.map wdD)) (.list (vs.map wdD)) = PyData.eqvAll (ws.map wdD) (vs.map wdD) by simp only [PyData.eqv], wdD_eqv]; exact q)
theorem rd_eqWT {r : Addr} (h : SqT K H p (ws.map wd)) (h2 : SqT K H r (vs.map wd)) (o1 : ∀ w ∈ ws, okT w) (o2 : ∀ w ∈ vs, okT w) (q : Q (.bl (decide (ws = vs))) H) : rEqD K (.ref p) (.ref r) H Q :=
  rd_eqD (.tup h (wd_dp ws)) (.tup h2 (wd_dp vs)) (wdT_shaped o1) (wdT_shaped o2) (by rw [show PyData.eqv (.tuple (ws.map wdD)) (.tuple (vs.map wdD)) = PyData.eqvAll (ws.map wdD) (vs.map wdD) by simp only [PyData.eqv], wdD_eqv]; exact q)
end
section
variable {X : Cx} {o e : Expr} {to te : TE} {K : PySem.W.Frag}
theorem pe_joinR {apos pos : Pos} (ho : PE X o to) (he : PE X e te) (h : X.K = K := by rfl) (hs : starEach [e] X.env = [(false, eval e X.env)] := by rfl) (hbase : attributeBase o "join" X.env (eval o X.env) = eval o X.env := by rfl) (hline : (apos.endLine == pos.line) = true := by rfl) :
    PE X (.Call (.Attribute o "join" apos) [e] [] pos) (tM1 (JoinK K) to te) := h ▸ pe_join ho he hs hbase hline
def SplitK (x : V) (xs : List V) (H : Hp) (Q : VK) : Prop := ∃ a b, x = .str a ∧ xs = [.str b] ∧ (b.length == 0) = false ∧ a.length + 2 ≤ sizeLine ∧ rNewStrs (Txt.split a b) H Q
theorem pe_splitR {apos pos : Pos} (ho : PE X o to) (he : PE X e te) (hs : starEach [e] X.env = [(false, eval e X.env)] := by rfl) (hbase : attributeBase o "split" X.env (eval o X.env) = eval o X.env := by rfl) (hline : (apos.endLine == pos.line) = true := by rfl) :
    PE X (.Call (.Attribute o "split" apos) [e] [] pos) (tM1 SplitK to te) := pe_split ho he hs hbase hline
end
theorem units65 {k : Nat} {A : Around} (r : Room k A) : A.units + 65 < cLine := by have := r.un; omega
end Hk

/-! The frozen part F of the heap H: data that is never written again; what a call leaves: Grow. -/
namespace Hk
open PySem PySem.Spec PyProof.Rows L2

/-- behind a call: the frozen part and the heap have grown; what was tracked and not frozen (the callers' own) is kept, but for S -/
structure Grow (S : List Addr) (F H F' H' : Hp) : Prop where
  ff : Same F F'
  fh : Same F' H'
  hh : ∀ c o, c ∉ S → H c = some o → H' c = some o
  own : ∀ c, F c = none → H c ≠ none → F' c = none ∧ H' c ≠ none
section
variable {S : List Addr} {F H F1 H1 F2 H2 : Hp} {p : Addr} {o : HO}
theorem some_ne {α : Type} {x : Option α} {y : α} (h : x = some y) : x ≠ none := by rw [h]; intro z; cases z
theorem same_nn (e : Same H H1) (h : H p ≠ none) : H1 p ≠ none := by
  cases q : H p with
  | none => exact absurd q h
  | some o => rw [e _ _ q]; intro z; cases z
theorem upd_nn {q : Addr} (h : H p ≠ none) : upd H q o p ≠ none := by
  by_cases e : p = q
  · rw [e, upd_same]; intro z; cases z
  · rw [upd_ne e]; exact h
theorem Grow.refl (h : Same F H) : Grow S F H F H := ⟨Same.refl _, h, fun _ _ _ e => e, fun _ a b => ⟨a, b⟩⟩
theorem Grow.trans (a : Grow S F H F1 H1) (b : Grow S F1 H1 F2 H2) : Grow S F H F2 H2 :=
  ⟨a.ff.trans b.ff, b.fh, fun c o n e => b.hh c o n (a.hh c o n e), fun c x y => let z := a.own c x y; b.own c z.1 z.2⟩
theorem Grow.weak (a : Grow [] F H F1 H1) : Grow S F H F1 H1 := ⟨a.ff, a.fh, fun c o _ e => a.hh c o (by simp) e, a.own⟩
theorem Grow.step {S' : List Addr} (a : Grow S F H F1 H1) (b : Grow [] F1 H1 F2 H2) : Grow S F H F2 H2 := a.trans b.weak
theorem Grow.same (a : Grow [] F H F1 H1) : Same H H1 := fun c o e => a.hh c o (by simp) e
/-- a new thing, frozen -/
theorem Grow.new (a : Grow S F H F1 H1) (n : H1 p = none) : Grow S F H (upd F1 p o) (upd H1 p o) := by
  refine ⟨a.ff.trans (same_new (a.fh.free n)), fun c u e => ?_, fun c u h e => upd_new n (a.hh c u h e), fun c x y => ?_⟩
  · by_cases q : c = p
    · subst q; rw [upd_same] at e ⊢; exact e
    · rw [upd_ne q] at e ⊢; exact a.fh _ _ e
  · have z := a.own c x y
    have q : c ≠ p := fun q => z.2 (q ▸ n)
    exact ⟨upd_oldN q z.1, upd_nn z.2⟩
/-- a new thing that will be written -/
theorem Grow.newO (a : Grow S F H F1 H1) (n : H1 p = none) : Grow S F H F1 (upd H1 p o) :=
  ⟨a.ff, a.fh.trans (same_new n), fun c u h e => upd_new n (a.hh c u h e), fun c x y => let z := a.own c x y; ⟨z.1, upd_nn z.2⟩⟩
/-- a store to one's own -/
theorem Grow.mut (a : Grow S F H F1 H1) (f : F1 p = none) (n : p ∈ S ∨ H p = none) : Grow S F H F1 (upd H1 p o) := by
  refine ⟨a.ff, same_mut a.fh f, fun c u h e => ?_, fun c x y => let z := a.own c x y; ⟨z.1, upd_nn z.2⟩⟩
  have q : c ≠ p := by
    rcases n with n | n
    · exact fun q => h (q ▸ n)
    · exact ne_of_none e n
  exact upd_old q (a.hh c u h e)
/-- one's own thing is frozen -/
theorem Grow.frz (a : Grow S F H F1 H1) (h : H1 p = some o) (f : F1 p = none) (n : H p = none) : Grow S F H (upd F1 p o) H1 := by
  refine ⟨a.ff.trans (same_new f), fun c u e => ?_, a.hh, fun c x y => ?_⟩
  · by_cases q : c = p
    · subst q; rw [upd_same] at e; rw [← e]; exact h
    · rw [upd_ne q] at e; exact a.fh _ _ e
  · have z := a.own c x y
    exact ⟨upd_oldN (fun q => y (q ▸ n)) z.1, z.2⟩
theorem Grow.free (a : Grow S F H F1 H1) (h : H1 p = none) : H p = none := by
  cases e : H p with
  | none => rfl
  | some u =>
    cases q : F p with
    | some v =>
      have := a.fh _ _ (a.ff _ _ q)
      rw [h] at this; cases this
    | none => exact absurd h (a.own p q (some_ne e)).2
/-- one's own thing: at p stands o, not frozen -/
structure Hold (F H : Hp) (p : Addr) (o : HO) : Prop where
  f : F p = none
  h : H p = some o
theorem Hold.go (h : Hold F H p o) (a : Grow S F H F1 H1) (n : p ∉ S) : Hold F1 H1 p o := ⟨(a.own p h.f (some_ne h.h)).1, a.hh p o n h.h⟩
theorem Hold.go0 (h : Hold F H p o) (a : Grow [] F H F1 H1) : Hold F1 H1 p o := h.go a (by simp)
theorem Hold.new (fh : Same F H) (n : H p = none) : Hold F (upd H p o) p o := ⟨fh.free n, upd_same⟩
theorem Hold.put {u : HO} (h : Hold F H p o) : Hold F (upd H p u) p u := ⟨h.f, upd_same⟩
theorem Hold.other {q : Addr} {u : HO} (h : Hold F H p o) (n : p ≠ q) : Hold F (upd H q u) p o := ⟨h.f, upd_old n h.h⟩
theorem Hold.newF {q : Addr} {u : HO} (h : Hold F H p o) (n : H q = none) : Hold (upd F q u) (upd H q u) p o := ⟨upd_oldN (ne_new n h.h) h.f, upd_new n h.h⟩
theorem Hold.ne {q : Addr} {u : HO} (h : Hold F H p o) (e : F q = some u) : p ≠ q := fun z => by rw [← z, h.f] at e; cases e
end

/-! ### data -/
section
variable {K : PySem.W.Frag} {H H1 : Hp}
mutual
theorem dp_mono (e : Same H H1) : ∀ (d : PyData) (v : V), Dp K H v d → Dp K H1 v d
  | .none, _, h => by cases h; exact .non
  | .bool b, _, h => by cases h; exact .bl b
  | .int i, _, h => by cases h; exact .int i
  | .str x, _, h => by cases h; exact .str x
  | .list ds, _, h => by
    cases h with
    | lst hs ha => exact .lst (e.seq hs) (dpAll_mono e ds _ ha)
  | .tuple ds, _, h => by
    cases h with
    | tup hs ha => exact .tup (sqT_same e hs) (dpAll_mono e ds _ ha)
  | .dict _, _, h => by cases h
theorem dpAll_mono (e : Same H H1) : ∀ (ds : List PyData) (vs : List V), DpAll K H vs ds → DpAll K H1 vs ds
  | [], _, h => by cases h; exact .nil
  | d :: ds, _, h => by
    cases h with
    | cons hd ha => exact .cons (dp_mono e d _ hd) (dpAll_mono e ds _ ha)
end
theorem _root_.L2.Dp.mono {d : PyData} {v : V} (h : Dp K H v d) (e : Same H H1) : Dp K H1 v d := dp_mono e d v h
theorem _root_.L2.DpAll.mono {ds : List PyData} {vs : List V} (h : DpAll K H vs ds) (e : Same H H1) : DpAll K H1 vs ds := dpAll_mono e ds vs h
theorem _root_.L2.DpAll.length {vs : List V} {ds : List PyData} (h : DpAll K H vs ds) : vs.length = ds.length := by
  induction vs generalizing ds with
  | nil => cases h; rfl
  | cons v vs ih =>
    cases h with
    | cons _ ha => simp [ih ha]
theorem _root_.L2.DpAll.get {vs : List V} {ds : List PyData} (h : DpAll K H vs ds) {i : Nat} {v : V} (e : vs[i]? = some v) : ∃ d, ds[i]? = some d ∧ Dp K H v d := by
  induction vs generalizing ds i with
  | nil => simp at e
  | cons v' vs ih =>
    cases h with
    | cons hd ha =>
      cases i with
      | zero => simp at e; subst e; exact ⟨_, rfl, hd⟩
      | succ i => simpa using ih ha (by simpa using e)
theorem _root_.L2.DpAll.app {vs ws : List V} {ds es : List PyData} (h : DpAll K H vs ds) (h2 : DpAll K H ws es) : DpAll K H (vs ++ ws) (ds ++ es) := by
  induction vs generalizing ds with
  | nil => cases h; exact h2
  | cons v vs ih =>
    cases h with
    | cons hd ha => exact .cons hd (ih ha)
theorem _root_.L2.DpAll.one {v : V} {d : PyData} (h : Dp K H v d) : DpAll K H [v] [d] := .cons h .nil
theorem _root_.L2.DpAll.snoc {vs : List V} {ds : List PyData} {v : V} {d : PyData} (h : DpAll K H vs ds) (h2 : Dp K H v d) : DpAll K H (vs ++ [v]) (ds ++ [d]) := h.app (.one h2)
theorem _root_.L2.Dp.list_inv {v : V} {ds : List PyData} (h : Dp K H v (.list ds)) : ∃ a xs, v = .ref a ∧ SqL K H a xs ∧ DpAll K H xs ds := by
  cases h with
  | lst hs ha => exact ⟨_, _, rfl, hs, ha⟩
theorem _root_.L2.Dp.tup_inv {v : V} {ds : List PyData} (h : Dp K H v (.tuple ds)) : ∃ a xs, v = .ref a ∧ SqT K H a xs ∧ DpAll K H xs ds := by
  cases h with
  | tup hs ha => exact ⟨_, _, rfl, hs, ha⟩
theorem _root_.L2.Dp.str_inv {v : V} {x : Str} (h : Dp K H v (.str x)) : v = .str x := by cases h; rfl
theorem _root_.L2.Dp.int_inv {v : V} {x : Int} (h : Dp K H v (.int x)) : v = .int x := by cases h; rfl
/-- texts, ints, bools, none: the value itself -/
def flD : PyData → Option V
  | .none => some .non
  | .bool b => some (.bl b)
  | .int i => some (.int i)
  | .str x => some (.str x)
  | _ => none
def flAll : List PyData → Option (List V)
  | [] => some []
  | d :: ds => match flD d, flAll ds with
    | some v, some vs => some (v :: vs)
    | _, _ => none
theorem flD_inv {d : PyData} {v w : V} (e : flD d = some w) (h : Dp K H v d) : v = w := by
  cases h <;> simp [flD] at e <;> exact e
theorem flD_mk {d : PyData} {w : V} (e : flD d = some w) : Dp K H w d := by
  cases d <;> simp [flD] at e <;> subst e
  · exact .non
  · exact .bl _
  · exact .int _
  · exact .str _
theorem flAll_inv : ∀ {ds : List PyData} {vs ws : List V}, flAll ds = some ws → DpAll K H vs ds → vs = ws
  | [], _, _, e, h => by cases h; simp [flAll] at e; exact e.symm ▸ rfl
  | d :: ds, _, _, e, h => by
    cases h with
    | cons hd ha =>
      unfold flAll at e
      split at e
      · rename_i v vs e1 e2
        cases e
        rw [flD_inv e1 hd, flAll_inv e2 ha]
      · cases e
theorem flAll_mk : ∀ {ds : List PyData} {ws : List V}, flAll ds = some ws → DpAll K H ws ds
  | [], _, e => by simp [flAll] at e; subst e; exact .nil
  | d :: ds, _, e => by
    unfold flAll at e
    split at e
    · rename_i v vs e1 e2
      cases e
      exact .cons (flD_mk e1) (flAll_mk e2)
    · cases e
/-- a tuple of scalars: its items -/
theorem _root_.L2.Dp.tup_flat {v : V} {ds : List PyData} {ws : List V} (h : Dp K H v (.tuple ds)) (e : flAll ds = some ws := by rfl) : ∃ a, v = .ref a ∧ SqT K H a ws := by
  obtain ⟨a, xs, rfl, hs, ha⟩ := h.tup_inv
  rw [flAll_inv e ha] at hs
  exact ⟨a, rfl, hs⟩
mutual
theorem eqv_self : ∀ d : PyData, PyData.canLay0 d = true → PyData.eqv d d = true
  | .none, _ => by simp [PyData.eqv]
  | .bool _, _ => by simp [PyData.eqv]
  | .int _, _ => by simp [PyData.eqv]
  | .str _, _ => by simp [PyData.eqv]
  | .list xs, h => by simp only [PyData.eqv]; exact eqvAll_self xs (by simpa [PyData.canLay0] using h)
  | .tuple xs, h => by simp only [PyData.eqv]; exact eqvAll_self xs (by simpa [PyData.canLay0] using h)
  | .dict _, h => by simp [PyData.canLay0] at h
theorem eqvAll_self : ∀ ds : List PyData, PyData.canLayAll0 ds = true → PyData.eqvAll ds ds = true
  | [], _ => by simp [PyData.eqvAll]
  | d :: ds, h => by
    have h' : d.canLay0 = true ∧ PyData.canLayAll0 ds = true := by simpa [PyData.canLayAll0] using h
    simp [PyData.eqvAll, eqv_self d h'.1, eqvAll_self ds h'.2]
end
/-- no bools, no dicts: == is equality -/
def noB : PyData → Bool
  | .none | .int _ | .str _ => true
  | .list xs | .tuple xs => noBAll xs
  | .bool _ | .dict _ => false
where noBAll : List PyData → Bool
  | [] => true
  | x :: xs => noB x && noBAll xs
mutual
theorem eqv_eq : ∀ d e : PyData, noB d = true → noB e = true → PyData.eqv d e = true → d = e
  | .none, e, _, _, h => by cases e <;> simp [PyData.eqv] at h ⊢
  | .int _, e, _, he, h => by cases e <;> simp [PyData.eqv, noB] at h he ⊢; exact h
  | .str _, e, _, _, h => by cases e <;> simp [PyData.eqv] at h ⊢; exact h
  | .list xs, e, hd, he, h => by
    cases e <;> simp [PyData.eqv] at h ⊢
    exact eqvAll_eq xs _ (by simpa [noB] using hd) (by simpa [noB] using he) h
  | .tuple xs, e, hd, he, h => by
    cases e <;> simp [PyData.eqv] at h ⊢
    exact eqvAll_eq xs _ (by simpa [noB] using hd) (by simpa [noB] using he) h
  | .bool _, _, hd, _, _ => by simp [noB] at hd
  | .dict _, _, hd, _, _ => by simp [noB] at hd
theorem eqvAll_eq : ∀ ds es : List PyData, noB.noBAll ds = true → noB.noBAll es = true → PyData.eqvAll ds es = true → ds = es
  | [], es, _, _, h => by cases es <;> simp [PyData.eqvAll] at h ⊢
  | d :: ds, es, hd, he, h => by
    cases es with
    | nil => simp [PyData.eqvAll] at h
    | cons e es =>
      simp [PyData.eqvAll] at h
      simp [noB.noBAll] at hd he
      rw [eqv_eq d e hd.1 he.1 h.1, eqvAll_eq ds es hd.2 he.2 h.2]
end
end
end Hk

/-! Own errors with one field: making, raising; a callee that may raise, called where it does not. -/
namespace Hk
open PySem PySem.Spec PyProof.Rows L2
theorem passN {X : Cx} : Passes (CX X.prog X.w) X E0 := fun _ _ _ _ _ _ _ h => by
  obtain ⟨_, _, _, _, _, _, _, _, _, _, _, _, hE⟩ := h
  exact hE.elim
/-- __init__(self, x): self.f = x -/
def sp_err1 (C : Addr) (f : Str) : Sp := fun vs H Q _ => ∃ (a : Addr) (v : V), vs = [.ref a, v] ∧ H a = some (exo a C none) ∧ ∀ dx, H dx = none → dx ≠ a → Q .non (upd (upd H dx (exd dx [(f, v)])) a (exo a C (some dx)))
section
variable {K : PySem.W.Frag} {σ : L2.St} {H : Hp} {D : Ends} {to te : TE} {f : Str} {C : Addr} {sp : Sp} {W : WX} {ta : TA} {v : V}
theorem rd_ost (h : te σ H fun y H1 => to σ H1 fun x H2 => ∃ a C : Addr, x = .ref a ∧ OexC K C ∧ PySem.W.findIn K (.ref C) f = some none ∧
  ((H2 a = some (exo a C none) ∧ ∀ dx, H2 dx = none → dx ≠ a → D.nx σ (upd (upd H2 dx (exd dx [(f, y)])) a (exo a C (some dx)))) ∨
    ∃ (dx : Addr) (fs : List (Str × V)), H2 a = some (exo a C (some dx)) ∧ H2 dx = some (exd dx fs) ∧ fs.length ≤ 900 ∧ D.nx σ (upd H2 dx (exd dx ((f, y) :: fs))))) : tOst K f to te D σ H := h
def tRaiseO (C : Addr) (sp : Sp) (W : WX) (ta : TA) : TS := fun _ σ H => tMkO C sp [] ta σ H fun cls d H' => W cls d σ H'
def RaiseK (C : Addr) (sp : Sp) (vs : List V) (H1 : Hp) (W : XK) : Prop := vs.length ≤ 1000 ∧ ∀ a, H1 a = none → sp (.ref a :: (vs ++ [])) (upd H1 a (exo a C none))
  (fun v H2 => v = .non ∧ ∃ (d : Addr) (fs : List (Str × V)), H2 a = some (exo a C (some d)) ∧ H2 d = some (exd d fs) ∧ H1 d = none ∧ W (.ref C) (some d) (upd (del H2 a) d (.xd fs))) (fun _ _ _ => False)
theorem rd_raiseO (h : ta σ H fun vs H1 => RaiseK C sp vs H1 fun cls d H' => W cls d σ H') : tRaiseO C sp W ta D σ H := h
theorem rd_err1 {W : XK} (h : ∀ d H', H d = none → Same H H' → H' d = some (.xd [(f, v)]) → W (.ref C) (some d) H') : RaiseK C (sp_err1 C f) [v] H W := by
  refine ⟨by simp, fun a ha => ⟨a, v, rfl, upd_same, fun dx hdx hne => ⟨rfl, dx, [(f, v)], upd_same, ?_, ?_, ?_⟩⟩⟩
  · rw [upd_ne hne]
    exact upd_same
  · rw [upd_ne hne] at hdx
    exact hdx
  · rw [upd_ne hne] at hdx
    refine h dx _ hdx (fun c o e => ?_) upd_same
    have c1 : c ≠ a := ne_of_none e ha
    have c2 : c ≠ dx := ne_of_none e hdx
    rw [upd_ne c2, del_ne c1, upd_ne c1, upd_ne c2, upd_ne c1]
    exact e
end
section
variable {X : Cx} {e : Expr} {es : List Expr} {ta : TA} {p pos : Pos}
theorem ps_raiseO {CX : CXT} {x : Str} {C fI : Addr} {k : Nat} {fd : FuncData} {ps : List Str} {sp : Sp} {W : WX} {pos2 : Pos} (hc : X.calm = true) (tk : Takes X W) (T : OexC X.K C) (iC : PySem.W.findIn X.K (.ref C) "__init__" = some (some (.ref fI))) (tI : PySem.W.typeIn X.K (.ref fI) = some (.type "function"))
    (F1 : FnOk X.prog X.w X.K X.mg X.base CX k fI fd ps sp) (hr : Room (k + 1) X.A) (hb : Binds X.K fd ps []) (hx : Passes CX X E0) (hg : Gl X x) (hm : X.mg x = some (.ref C)) (ha : PA X (e :: es) ta)
    (hdb : (x == ("__debug__" : Str)) = false := by decide) (he : starEach (e :: es) X.env = (false, eval e X.env) :: starEach es X.env := by rfl) (hpl : (backTo pos (starEach es X.env)).any (·.1) = false := by rfl) :
    PS X (.Raise (some (.Call (.Name x p) (e :: es) [] pos)) none pos2) (tRaiseO C sp W ta) := ps_raise hc tk (pmk_oex T iC tI F1 hr hb .nil hx hg hm ha hdb he hpl)
end
end Hk

/-! Steps in a heap with a frozen part: new things, the bag, comprehensions. -/
namespace Hk
open PySem PySem.Spec PyProof.Rows L2
/-- a display: a new tuple, a new list -/
def TupK (xs : List V) (H : Hp) (Q : VK) : Prop := xs.length ≤ sizeLine ∧ ∀ p, H p = none → Q (.ref p) (upd H p (.tup xs))
def LstK (xs : List V) (H : Hp) (Q : VK) : Prop := xs.length ≤ sizeLine ∧ ∀ p, H p = none → Q (.ref p) (upd H p (.lst xs))
theorem rd_tupK {tt : TA} {σ : L2.St} {H : Hp} {Q : VK} (h : tt σ H fun xs H1 => TupK xs H1 Q) : tTup tt σ H Q := h
theorem rd_lstK {tt : TA} {σ : L2.St} {H : Hp} {Q : VK} (h : tt σ H fun xs H1 => LstK xs H1 Q) : tLst tt σ H Q := h
section
variable {K : PySem.W.Frag} {F H : Hp} {Q : VK} {xs ys : List V} {ds es : List PyData} {S : List Addr} {p r : Addr}
theorem newL (fh : Same F H) (k : ∀ F' H' p, Grow [] F H F' H' → H p = none → F' p = some (.lst xs) → Q (.ref p) H') (hz : xs.length ≤ sizeLine := by exact sz_of (by simp)) : LstK xs H Q :=
  ⟨hz, fun p hp => k (upd F p (.lst xs)) _ p ((Grow.refl fh).new hp) hp upd_same⟩
theorem newT (fh : Same F H) (k : ∀ F' H' p, Grow [] F H F' H' → H p = none → F' p = some (.tup xs) → Q (.ref p) H') (hz : xs.length ≤ sizeLine := by exact sz_of (by simp)) : TupK xs H Q :=
  ⟨hz, fun p hp => k (upd F p (.tup xs)) _ p ((Grow.refl fh).new hp) hp upd_same⟩
/-- a new list that will be written -/
theorem newO (fh : Same F H) (k : ∀ H' p, Grow [] F H F H' → H p = none → Hold F H' p (.lst xs) → Q (.ref p) H') (hz : xs.length ≤ sizeLine := by exact sz_of (by simp)) : LstK xs H Q :=
  ⟨hz, fun p hp => k _ p ((Grow.refl fh).newO hp) hp (Hold.new fh hp)⟩
/-- .. of data -/
theorem newLD (fh : Same F H) (h : DpAll K F xs ds) (k : ∀ F' H' p, Grow [] F H F' H' → H p = none → Dp K F' (.ref p) (.list ds) → Q (.ref p) H') (hz : xs.length ≤ sizeLine := by exact sz_of (by simp)) : LstK xs H Q :=
  newL fh (fun F' H' p g n e => k F' H' p g n (.lst (sqL_of e) (h.mono g.ff))) hz
theorem newTD (fh : Same F H) (h : DpAll K F xs ds) (k : ∀ F' H' p, Grow [] F H F' H' → H p = none → Dp K F' (.ref p) (.tuple ds) → Q (.ref p) H') (hz : xs.length ≤ sizeLine := by exact sz_of (by simp)) : TupK xs H Q :=
  newT fh (fun F' H' p g n e => k F' H' p g n (.tup (sqT_of e) (h.mono g.ff))) hz
/-- list(x), x a list or a tuple -/
theorem new_list (fh : Same F H) (h : SqL K F r xs ∨ SqT K F r xs) (k : ∀ F' H' p, Grow [] F H F' H' → H p = none → F' p = some (.lst xs) → Q (.ref p) H') : rListOf K [.ref r] H Q :=
  ⟨r, xs, rfl, h.imp (fun z => fh.seq z) (fun z => sqT_same fh z), fun l hl => k (upd F l (.lst xs)) _ l ((Grow.refl fh).new hl) hl upd_same⟩
/-- x + y of lists: what stands in the heap -/
theorem new_cat (fh : Same F H) (h1 : H p = some (.lst xs)) (h2 : H r = some (.lst ys)) (hz : xs.length + ys.length ≤ 100000) (k : ∀ F' H' l, Grow [] F H F' H' → H l = none → F' l = some (.lst (xs ++ ys)) → Q (.ref l) H') : rCat (.ref p) (.ref r) H Q :=
  ⟨p, r, xs, ys, rfl, rfl, h1, h2, sz_of hz, fun l hl => k (upd F l (.lst (xs ++ ys))) _ l ((Grow.refl fh).new hl) hl upd_same⟩
/-- == of data -/
theorem eq_dat {x y : V} {d : PyData} (hx : Dp K F x d) (hy : Dp K F y d) (fh : Same F H) (s : SeqAt.shaped d = true) (q : Q (.bl true) H) : rEqD K x y H Q :=
  rd_eqD (hx.mono fh) (hy.mono fh) s s (by
    have h : PyData.canLay0 d = true := by
      have := s
      unfold SeqAt.shaped at this
      rw [Bool.and_eq_true] at this
      exact this.1
    rw [eqv_self d h]; exact q)
theorem ne_dat {x y : V} {d : PyData} (hx : Dp K F x d) (hy : Dp K F y d) (fh : Same F H) (s : SeqAt.shaped d = true) (q : Q (.bl false) H) : rNeD K x y H Q :=
  rd_neD (hx.mono fh) (hy.mono fh) s s (by
    have h : PyData.canLay0 d = true := by
      have := s
      unfold SeqAt.shaped at this
      rw [Bool.and_eq_true] at this
      exact this.1
    rw [eqv_self d h]; exact q)
/-- the bag of a law: two numbers, written by each draw -/
structure Bag (F H : Hp) (b : Addr) : Prop where
  fh : Same F H
  fb : F b = none
  hb : ∃ d m : Int, H b = some (.lst [.int d, .int m])
theorem Bag.nn {b : Addr} (h : Bag F H b) : H b ≠ none := by
  obtain ⟨d, m, e⟩ := h.hb
  exact some_ne e
theorem Bag.go0 {b : Addr} {F' H' : Hp} (h : Bag F H b) (g : Grow [] F H F' H') : Bag F' H' b := by
  obtain ⟨d, m, e⟩ := h.hb
  exact ⟨g.fh, (g.own b h.fb h.nn).1, d, m, g.same _ _ e⟩
theorem Bag.mk' {b : Addr} {F' H' : Hp} (h : Bag F H b) (g : Grow [b] F H F' H') (e : ∃ d m : Int, H' b = some (.lst [.int d, .int m])) : Bag F' H' b := ⟨g.fh, (g.own b h.fb h.nn).1, e⟩
theorem Bag.turn {b : Addr} (h : Bag F H b) (d m : Int) : Grow [b] F H F (upd H b (.lst [.int d, .int m])) ∧ Bag F (upd H b (.lst [.int d, .int m])) b :=
  ⟨(Grow.refl h.fh).mut h.fb (.inl (by simp)), same_mut h.fh h.fb, h.fb, d, m, upd_same⟩
theorem Bag.mut {b p : Addr} {o u : HO} (h : Bag F H b) (hp : Hold F H p o) (n : p ≠ b) : Bag F (upd H p u) b := by
  obtain ⟨d, m, e⟩ := h.hb
  exact ⟨same_mut h.fh hp.f, h.fb, d, m, upd_old n.symm e⟩
theorem Hold.goB {F' H' : Hp} {p b : Addr} {o : HO} (h : Hold F H p o) (g : Grow [b] F H F' H') (n : p ≠ b) : Hold F' H' p o := h.go g (by simpa using n)
end
section
variable {K : PySem.W.Frag} {σ : L2.St} {F H : Hp} {g : TG} {tt : TT} {te : TE} {vs : List Nat} {Q : VK} {S : List Addr}
/-- a comprehension, turn by turn: A tells of the turn, the frozen part and what is made so far; Z of the frozen part and the heap -/
theorem lcG {J : It} {n : Nat} {X : Nat → V → Prop} (A : Nat → Hp → List V → Prop) (Z : Hp → Hp → Prop) (fh : Same F H) (hz : n ≤ 100000)
    (hst : ∀ H', Same F H' → J.stop n H') (hgo : ∀ i H', Same F H' → i < n → J.go i H') (hy : ∀ i H1 x H2, i < n → Same F H1 → J.yld i H1 x H2 → H2 = H1 ∧ X i x)
    (a0 : A 0 F []) (z0 : Z F H) (zup : ∀ F' H' D o, Z F' H' → H D = none → F' D = none → Z F' (upd H' D o)) (al : ∀ i F' acc, A i F' acc → acc.length ≤ i) (am : ∀ i F1 F2 acc, Same F1 F2 → A i F1 acc → A i F2 acc)
    (turn : ∀ i x F1 H1 acc, i < n → X i x → Grow S F H F1 H1 → Z F1 H1 → A i F1 acc → ∀ (Done : Hp → Prop) (Kept : VK), (∀ F2 H2, Grow S F1 H1 F2 H2 → Z F2 H2 → A (i + 1) F2 acc → Done H2) →
      (∀ F2 H2 y, Grow S F1 H1 F2 H2 → Z F2 H2 → A (i + 1) F2 (acc ++ [y]) → Kept y H2) →
      g x (wipe σ vs) H1 fun σ2 H2 => wipe σ2 vs = wipe σ vs ∧ tt σ2 H2 fun b H3 => if b = true then te σ2 H3 Kept else Done H3)
    (hS : ∀ D, H D = none → D ∉ S)
    (q : ∀ F' H' D acc, Grow S F H F' H' → Z F' H' → H D = none → Hold F' H' D (.lst acc) → A n F' acc → Q (.ref D) H') : LcK J g tt te vs σ H Q := by
  intro D hD
  have fD : F D = none := fh.free hD
  have nD : D ∉ S := hS D hD
  refine ⟨fun i m H' => m = n - i ∧ i ≤ n ∧ ∃ F' acc, Grow S F H F' H' ∧ Z F' H' ∧ Hold F' H' D (.lst acc) ∧ A i F' acc, ⟨n, by simp, Nat.zero_le _, F, [], (Grow.refl fh).newO hD, zup _ _ _ _ z0 hD fD, Hold.new fh hD, a0⟩, ?_⟩
  rintro i m H1 ⟨rfl, hi, F1, acc, g1, z1, d1, a1⟩
  have s1 : Same F H1 := g1.ff.trans g1.fh
  by_cases hlt : i < n
  · refine .inr ⟨hgo i H1 s1 hlt, fun H' => i + 1 ≤ n ∧ ∃ F' acc, Grow S F H F' H' ∧ Z F' H' ∧ Hold F' H' D (.lst acc) ∧ A (i + 1) F' acc, fun H' p' => ⟨n - (i + 1), by omega, rfl, p'⟩, fun x H2 y => ?_⟩
    obtain ⟨rfl, hx⟩ := hy i H1 x H2 hlt s1 y
    refine turn i x F1 H2 acc hlt hx g1 z1 a1 _ _ (fun F3 H3 g3 z3 a3 => ?_) (fun F3 H3 y g3 z3 a3 => ?_)
    · exact ⟨hlt, F3, acc, g1.trans g3, z3, d1.go g3 nD, a3⟩
    · have d3 := d1.go g3 nD
      refine ⟨acc, d3.h, ?_, hlt, F3, acc ++ [y], (g1.trans g3).mut d3.f (.inr hD), zup _ _ _ _ z3 hD d3.f, d3.put, a3⟩
      have := al _ _ _ a1
      rw [sizeLine_eq]
      omega
  · have e : i = n := by omega
    subst e
    exact .inl ⟨hst H1 s1, q F1 H1 D acc g1 z1 hD d1 a1⟩
/-- pure, over a frozen list -/
theorem lcPL {a : Addr} {xs : List V} (A : Nat → Hp → List V → Prop) (fh : Same F H) (hx : SqL K F a xs) (hz : xs.length ≤ 100000)
    (a0 : A 0 F []) (al : ∀ i F' acc, A i F' acc → acc.length ≤ i) (am : ∀ i F1 F2 acc, Same F1 F2 → A i F1 acc → A i F2 acc)
    (turn : ∀ i x F1 H1 acc, i < xs.length → xs[i]? = some x → Grow [] F H F1 H1 → A i F1 acc → ∀ (Done : Hp → Prop) (Kept : VK), (∀ F2 H2, Grow [] F1 H1 F2 H2 → A (i + 1) F2 acc → Done H2) →
      (∀ F2 H2 y, Grow [] F1 H1 F2 H2 → A (i + 1) F2 (acc ++ [y]) → Kept y H2) →
      g x (wipe σ vs) H1 fun σ2 H2 => wipe σ2 vs = wipe σ vs ∧ tt σ2 H2 fun b H3 => if b = true then te σ2 H3 Kept else Done H3)
    (q : ∀ F' H' D acc, Grow [] F H F' H' → H D = none → Hold F' H' D (.lst acc) → A xs.length F' acc → Q (.ref D) H') : LcK (Itl K a) g tt te vs σ H Q :=
  lcG (X := fun i x => xs[i]? = some x) A (fun _ _ => True) fh hz (fun H' s => ⟨xs, s.seq hx, Nat.le_refl _⟩) (fun i H' s hi => ⟨xs, xs[i], s.seq hx, by simp [hi]⟩)
    (fun i H1 x H2 hi s1 y => by obtain ⟨rfl, y⟩ := y; exact ⟨rfl, y xs (s1.seq hx)⟩) a0 trivial (fun _ _ _ _ _ _ _ => trivial) al am
    (fun i x F1 H1 acc hi hx' g1 _ a1 Done Kept hd hk => turn i x F1 H1 acc hi hx' g1 a1 Done Kept (fun F2 H2 g2 a2 => hd F2 H2 g2 trivial a2) fun F2 H2 y g2 a2 => hk F2 H2 y g2 trivial a2)
    (fun _ _ => by simp) fun F' H' D acc g' _ n h a' => q F' H' D acc g' n h a'
theorem lcPT {a : Addr} {xs : List V} (A : Nat → Hp → List V → Prop) (fh : Same F H) (hx : SqT K F a xs) (hz : xs.length ≤ 100000)
    (a0 : A 0 F []) (al : ∀ i F' acc, A i F' acc → acc.length ≤ i) (am : ∀ i F1 F2 acc, Same F1 F2 → A i F1 acc → A i F2 acc)
    (turn : ∀ i x F1 H1 acc, i < xs.length → xs[i]? = some x → Grow [] F H F1 H1 → A i F1 acc → ∀ (Done : Hp → Prop) (Kept : VK), (∀ F2 H2, Grow [] F1 H1 F2 H2 → A (i + 1) F2 acc → Done H2) →
      (∀ F2 H2 y, Grow [] F1 H1 F2 H2 → A (i + 1) F2 (acc ++ [y]) → Kept y H2) →
      g x (wipe σ vs) H1 fun σ2 H2 => wipe σ2 vs = wipe σ vs ∧ tt σ2 H2 fun b H3 => if b = true then te σ2 H3 Kept else Done H3)
    (q : ∀ F' H' D acc, Grow [] F H F' H' → H D = none → Hold F' H' D (.lst acc) → A xs.length F' acc → Q (.ref D) H') : LcK (Itt K a) g tt te vs σ H Q :=
  lcG (X := fun i x => xs[i]? = some x) A (fun _ _ => True) fh hz (fun H' s => ⟨xs, sqT_same s hx, Nat.le_refl _⟩) (fun i H' s hi => ⟨xs, xs[i], sqT_same s hx, by simp [hi]⟩)
    (fun i H1 x H2 hi s1 y => by obtain ⟨rfl, y⟩ := y; exact ⟨rfl, y xs (sqT_same s1 hx)⟩) a0 trivial (fun _ _ _ _ _ _ _ => trivial) al am
    (fun i x F1 H1 acc hi hx' g1 _ a1 Done Kept hd hk => turn i x F1 H1 acc hi hx' g1 a1 Done Kept (fun F2 H2 g2 a2 => hd F2 H2 g2 trivial a2) fun F2 H2 y g2 a2 => hk F2 H2 y g2 trivial a2)
    (fun _ _ => by simp) fun F' H' D acc g' _ n h a' => q F' H' D acc g' n h a'
/-- with draws, over a frozen list -/
theorem lcBL {a b : Addr} {xs : List V} (A : Nat → Hp → List V → Prop) (hb : Bag F H b) (hx : SqL K F a xs) (hz : xs.length ≤ 100000)
    (a0 : A 0 F []) (al : ∀ i F' acc, A i F' acc → acc.length ≤ i) (am : ∀ i F1 F2 acc, Same F1 F2 → A i F1 acc → A i F2 acc)
    (turn : ∀ i x F1 H1 acc, i < xs.length → xs[i]? = some x → Grow [b] F H F1 H1 → Bag F1 H1 b → A i F1 acc → ∀ (Done : Hp → Prop) (Kept : VK), (∀ F2 H2, Grow [b] F1 H1 F2 H2 → Bag F2 H2 b → A (i + 1) F2 acc → Done H2) →
      (∀ F2 H2 y, Grow [b] F1 H1 F2 H2 → Bag F2 H2 b → A (i + 1) F2 (acc ++ [y]) → Kept y H2) →
      g x (wipe σ vs) H1 fun σ2 H2 => wipe σ2 vs = wipe σ vs ∧ tt σ2 H2 fun b H3 => if b = true then te σ2 H3 Kept else Done H3)
    (q : ∀ F' H' D acc, Grow [b] F H F' H' → Bag F' H' b → H D = none → Hold F' H' D (.lst acc) → A xs.length F' acc → Q (.ref D) H') : LcK (Itl K a) g tt te vs σ H Q :=
  lcG (X := fun i x => xs[i]? = some x) A (fun F' H' => Bag F' H' b) hb.fh hz (fun H' s => ⟨xs, s.seq hx, Nat.le_refl _⟩) (fun i H' s hi => ⟨xs, xs[i], s.seq hx, by simp [hi]⟩)
    (fun i H1 x H2 hi s1 y => by obtain ⟨rfl, y⟩ := y; exact ⟨rfl, y xs (s1.seq hx)⟩) a0 hb
    (fun F' H' D o z n f => by
      obtain ⟨d, m, e⟩ := z.hb
      exact ⟨same_mut z.fh f, z.fb, d, m, upd_old (fun q => hb.nn (q ▸ n)) e⟩) al am turn
    (fun D n => by simp; exact fun q => hb.nn (q ▸ n)) q
theorem rng_yld {n : Nat} {i : Nat} {H1 H2 : Hp} {x : V} (h : (Itr 0 n).yld i H1 x H2) : H2 = H1 ∧ x = .int (i : Int) := by
  obtain ⟨rfl, rfl⟩ := h
  have e : (0 : Int) + (i : Int) = (i : Int) := Int.zero_add _
  rw [e]
  exact ⟨rfl, rfl⟩
/-- over range(n) -/
theorem lcPR {n : Nat} (A : Nat → Hp → List V → Prop) (fh : Same F H) (hz : n ≤ 100000)
    (a0 : A 0 F []) (al : ∀ i F' acc, A i F' acc → acc.length ≤ i) (am : ∀ i F1 F2 acc, Same F1 F2 → A i F1 acc → A i F2 acc)
    (turn : ∀ (i : Nat) F1 H1 acc, i < n → Grow [] F H F1 H1 → A i F1 acc → ∀ (Done : Hp → Prop) (Kept : VK), (∀ F2 H2, Grow [] F1 H1 F2 H2 → A (i + 1) F2 acc → Done H2) →
      (∀ F2 H2 y, Grow [] F1 H1 F2 H2 → A (i + 1) F2 (acc ++ [y]) → Kept y H2) →
      g (.int (i : Int)) (wipe σ vs) H1 fun σ2 H2 => wipe σ2 vs = wipe σ vs ∧ tt σ2 H2 fun b H3 => if b = true then te σ2 H3 Kept else Done H3)
    (q : ∀ F' H' D acc, Grow [] F H F' H' → H D = none → Hold F' H' D (.lst acc) → A n F' acc → Q (.ref D) H') : LcK (Itr 0 n) g tt te vs σ H Q :=
  lcG (X := fun i x => x = .int (i : Int)) A (fun _ _ => True) fh hz (fun H' s => Nat.le_refl _) (fun i H' s hi => hi)
    (fun i H1 x H2 hi s1 y => rng_yld y) a0 trivial (fun _ _ _ _ _ _ _ => trivial) al am
    (fun i x F1 H1 acc hi hx' g1 _ a1 Done Kept hd hk => by subst hx'; exact turn i F1 H1 acc hi g1 a1 Done Kept (fun F2 H2 g2 a2 => hd F2 H2 g2 trivial a2) fun F2 H2 y g2 a2 => hk F2 H2 y g2 trivial a2)
    (fun _ _ => by simp) fun F' H' D acc g' _ n h a' => q F' H' D acc g' n h a'
theorem lcBR {n : Nat} {b : Addr} (A : Nat → Hp → List V → Prop) (hb : Bag F H b) (hz : n ≤ 100000)
    (a0 : A 0 F []) (al : ∀ i F' acc, A i F' acc → acc.length ≤ i) (am : ∀ i F1 F2 acc, Same F1 F2 → A i F1 acc → A i F2 acc)
    (turn : ∀ (i : Nat) F1 H1 acc, i < n → Grow [b] F H F1 H1 → Bag F1 H1 b → A i F1 acc → ∀ (Done : Hp → Prop) (Kept : VK), (∀ F2 H2, Grow [b] F1 H1 F2 H2 → Bag F2 H2 b → A (i + 1) F2 acc → Done H2) →
      (∀ F2 H2 y, Grow [b] F1 H1 F2 H2 → Bag F2 H2 b → A (i + 1) F2 (acc ++ [y]) → Kept y H2) →
      g (.int (i : Int)) (wipe σ vs) H1 fun σ2 H2 => wipe σ2 vs = wipe σ vs ∧ tt σ2 H2 fun b H3 => if b = true then te σ2 H3 Kept else Done H3)
    (q : ∀ F' H' D acc, Grow [b] F H F' H' → Bag F' H' b → H D = none → Hold F' H' D (.lst acc) → A n F' acc → Q (.ref D) H') : LcK (Itr 0 n) g tt te vs σ H Q :=
  lcG (X := fun i x => x = .int (i : Int)) A (fun F' H' => Bag F' H' b) hb.fh hz (fun H' s => Nat.le_refl _) (fun i H' s hi => hi)
    (fun i H1 x H2 hi s1 y => rng_yld y) a0 hb
    (fun F' H' D o z n f => by
      obtain ⟨d, m, e⟩ := z.hb
      exact ⟨same_mut z.fh f, z.fb, d, m, upd_old (fun q => hb.nn (q ▸ n)) e⟩) al am
    (fun i x F1 H1 acc hi hx' g1 z1 a1 Done Kept hd hk => by subst hx'; exact turn i F1 H1 acc hi g1 z1 a1 Done Kept hd hk)
    (fun D n => by simp; exact fun q => hb.nn (q ▸ n)) q
/-- each row gives a datum or nothing: pure comprehension over a frozen list of data -/
theorem lcDat {ρ : Type} {a : Addr} {xs : List V} {rows : List ρ} {ds : ρ → PyData} (f : ρ → Bool) (v : ρ → PyData) (fh : Same F H) (hx : SqL K F a xs) (hd : DpAll K F xs (rows.map ds)) (hz : rows.length ≤ 100000)
    (turn : ∀ x r F1 H1, r ∈ rows → Dp K F1 x (ds r) → Grow [] F H F1 H1 → ∀ (Done : Hp → Prop) (Kept : VK), (∀ F2 H2, Grow [] F1 H1 F2 H2 → f r = false → Done H2) →
      (∀ F2 H2 y, Grow [] F1 H1 F2 H2 → f r = true → Dp K F2 y (v r) → Kept y H2) →
      g x (wipe σ vs) H1 fun σ2 H2 => wipe σ2 vs = wipe σ vs ∧ tt σ2 H2 fun b H3 => if b = true then te σ2 H3 Kept else Done H3)
    (q : ∀ F' H' D acc, Grow [] F H F' H' → H D = none → Hold F' H' D (.lst acc) → DpAll K F' acc ((rows.filter f).map v) → Q (.ref D) H') : LcK (Itl K a) g tt te vs σ H Q := by
  have hn : xs.length = rows.length := by simpa using hd.length
  refine lcPL (fun i F' acc => DpAll K F' acc (((rows.take i).filter f).map v)) fh hx (by omega) .nil (fun i F' acc h => ?_) (fun i F1 F2 acc s h => h.mono s) (fun i x F1 H1 acc hi hx' g1 a1 Done Kept hdn hk => ?_) (fun F' H' D acc g' n h a' => q F' H' D acc g' n h (by rw [hn, List.take_length] at a'; exact a'))
  · rw [h.length, List.length_map]
    have h1 := List.length_filter_le f (rows.take i)
    have h2 : (rows.take i).length ≤ i := by rw [List.length_take]; omega
    omega
  · obtain ⟨d, e, hd'⟩ := hd.get hx'
    rw [List.getElem?_map] at e
    have hr : i < rows.length := by omega
    rw [List.getElem?_eq_getElem hr] at e
    cases e
    refine turn x rows[i] F1 H1 (List.getElem_mem hr) (hd'.mono g1.ff) g1 Done Kept (fun F2 H2 g2 hf => ?_) (fun F2 H2 y g2 hf hv => ?_)
    · refine hdn F2 H2 g2 ?_
      rw [filter_take_succ f (List.getElem?_eq_getElem hr), hf]
      simp only [Bool.false_eq_true, if_false, List.append_nil]
      exact a1.mono g2.ff
    · refine hk F2 H2 y g2 ?_
      rw [filter_take_succ f (List.getElem?_eq_getElem hr), hf]
      simp only [if_true, List.map_append, List.map_cons, List.map_nil]
      exact (a1.mono g2.ff).snoc hv
end
end Hk

/-! unary operators and abs by own special methods -/
namespace Hk
open PySem PySem.Spec PyProof.Rows L2
section
variable {X : Cx} {n : Nat} {C : Addr} {sp : Sp} {E : XK}
def rUnO (C : Addr) (sp : Sp) (E : XK) : V → Hp → VK → Prop := fun x H Q => ∃ a dx fs, x = .ref a ∧ H a = some (.ins C dx fs) ∧ sp [.ref a] H Q E
theorem un_O {op : UnaryOp} {nm : Str} (G : Own X C nm n sp E) (hr : Room n X.A) (hop : (match op with | .Invert => some ("__invert__" : Str) | .UAdd => some "__pos__" | .USub => some "__neg__" | .Not => none) = some nm := by rfl) : UnR X (unaryOp op) (rUnO C sp E) := by
  obtain ⟨f, fd, ps, CX, F, hs, hf, hb, hx⟩ := G.ex
  intro pins s σ H x u Q I r h
  obtain ⟨a, dx, fs, rfl, ha, q⟩ := h
  cases r
  obtain ⟨mA, J, _⟩ := ins_get I.hok ha
  obtain ⟨od, J, _⟩ := J.look
  obtain ⟨m, hF⟩ := I.fr
  have sb : Sub X n X.A := ⟨hr, rfl⟩
  have z := run_sub (vs := [V.ref a]) sb F hb hx I (.cons rfl .nil) q
  unfold unaryOp
  refine wpAny_holding ?_
  cases op with
  | Not => cases hop
  | _ =>
    cases hop
    exact wpAny_bind (PySem.W.special_fn I.kIn J hs (beq_iff_eq.mp hf) (wpAny_mono z (fun v s' h' => wpAny_pure h') fun _ _ y => y))
def rAbsO (C : Addr) (sp : Sp) (E : XK) : List V → Hp → VK → Prop := fun xs H Q => ∃ a dx fs, xs = [.ref a] ∧ H a = some (.ins C dx fs) ∧ sp [.ref a] H Q E
theorem call_absO (G : Own X C "__abs__" n sp E) (hr : Room (n + 1) X.A) : CallR X (.builtin "abs") (rAbsO C sp E) := by
  obtain ⟨f, fd, ps, CX, F, hs, hf, hb, hx⟩ := G.ex
  intro pins s σ H xs us Q I r h
  obtain ⟨a, dx, fs, rfl, ha, q⟩ := h
  cases r with
  | cons r1 r2 =>
    cases r2
    cases r1
    obtain ⟨mA, J, _⟩ := ins_get I.hok ha
    obtain ⟨od, J, _⟩ := J.look
    have sb : Sub X n X.A.in1 := ⟨hr.in1, rfl⟩
    have z := run_sub (vs := [V.ref a]) sb F hb hx I (.cons rfl .nil) q
    refine PySem.Calls.call_function_entry kind_abs plain_abs entry_abs (args_abs _) ?_
    unfold Builtin.«abs»
    refine wpAny_bind (m := oneArg "abs" _) (wpAny_pure ?_)
    exact wpAny_bind (PySem.W.special_fn I.kIn J hs (beq_iff_eq.mp hf) (wpAny_mono z (fun v s' h' => wpAny_pure ⟨_, rfl, h'⟩) fun _ _ y => y))
theorem rd_unO {a dx : Addr} {fs : List (Str × V)} {H : Hp} {Q : VK} (h : H a = some (.ins C dx fs)) (q : sp [.ref a] H Q E) : rUnO C sp E (.ref a) H Q := ⟨a, dx, fs, rfl, h, q⟩
theorem rd_absO {a dx : Addr} {fs : List (Str × V)} {H : Hp} {Q : VK} (h : H a = some (.ins C dx fs)) (q : sp [.ref a] H Q E) : rAbsO C sp E [.ref a] H Q := ⟨a, dx, fs, rfl, h, q⟩
end
end Hk

/-! Catching own errors that have fields: e.f, isinstance(e, C), class methods called in a try. -/
namespace Hk
open PySem PySem.Spec PyProof.Rows L2
section
variable {X : Cx} {a D : Addr} {oe : Obj} {cls : Value} {d : Option Addr} {pn : List (Addr × Obj)}
def rIsX (K : PySem.W.Frag) (D a : Addr) (cls : Value) (d : Option Addr) : List V → Hp → VK → Prop := fun xs H Q => ∃ (c : V) (u : Value) (b : Bool) (dd : Addr) (fs : List (Str × V)), xs = [.ref a, c] ∧ cls = .ref D ∧ d = some dd ∧ H dd = some (.xd fs) ∧ ClsV c u ∧ PySem.W.kitOne K (.ref D) u = some b ∧ Q (.bl b) H
theorem call_isX (G : ExcC X.K D) (hz : Zc cls d oe) (hf : ∃ vs, oe.data = .fields vs) : CallR (X.suite a ((a, oe) :: pn)) (.builtin "isinstance") (rIsX X.K D a cls d) := by
  intro pins s σ H xs us Q I r h
  obtain ⟨c, u, b, dd, fs, ex, ec, ed, ea, k, e, q⟩ := h
  subst ex ec ed
  obtain ⟨u1, u2, rfl, r1, r2⟩ := vals2 r
  cases (show u1 = Value.ref a from r1)
  have e2 := k.eq r2
  subst e2
  obtain ⟨hg, _⟩ := I.pin (a, oe) (List.mem_append_left _ List.mem_cons_self)
  obtain ⟨vs, hv⟩ := hf
  obtain ⟨mA, hns, _⟩ := (show ObjOk X.prog X.w H s.heap dd (.xd fs) from I.hok dd _ ea)
  obtain ⟨od, ho, _⟩ := lookIn_ns hns
  have J : PySem.W.InstAt s.heap a oe D (some od) := by
    refine ⟨hg, hz.1, ?_, ?_⟩
    · unfold PySem.W.notCls
      rw [hv] <;> rfl
    · rw [hz.2]
      exact ho
  have hcl : (PySem.W.clsIn X.K D).isSome = true := by
    obtain ⟨cd, h1, _⟩ := PySem.W.any_some G.hd
    rw [h1]
    rfl
  exact PySem.W.kia_one (PySem.W.kitx_exc hcl G.hg G.hk G.hs G.ha G.hn G.ht G.hm) I.kIn J e (fun z => nomatch z) fun tk => ⟨.bl b, H, I.tok tk, rfl, q⟩
end
section
variable {X : Cx} {CX : CXT} {k : Nat} {f C p g : Addr} {mc : Value} {sp : Sp} {E : L2.St → XK} {o e : Expr} {es : List Expr} {m : Str} {pos apos : Pos} {ta : TE} {t : TA} {pl : Sem Bool}
theorem run_at {pins : List (Addr × Obj)} {σ : L2.St} {H : Hp} {s : Shared} {Q : VK} {us : List Value} {vs : List V} {E1 : XK} (F : FnR X.prog X.w X.K X.mg X.base CX k f sp) (hr : Room k X.A) (hx : PassesAt CX X σ E1) (I : Inv X pins σ H s) (rv : Vals vs us) (h : sp vs H Q E1) :
    codeAny (model X.prog X.w) X.A (.call (.ref f) ⟨us, []⟩) (fun r s' => match r with | .ok (.ret v) => EP X pins σ Q v s' | .ok _ => False | .error e => X.xe e s') s :=
  codeAny_mono (F X.A X.stack s H us vs Q E1 hr I.env0 rv h) fun r s' hq => match r, hq with
    | .error e, hq => hx pins H s e s' I hq
    | .ok (.ret _), hq => I.after hq
    | .ok .next, hq => False.elim hq
    | .ok .brk, hq => False.elim hq
    | .ok .cont, hq => False.elim hq
/-- C.m(..), m a class method that may raise, in a try -/
def tCMethS (C : Addr) (sp : Sp) (E : L2.St → XK) (ta : TE) (t : TA) : TE := fun σ H Q => ta σ H fun x H1 => x = .ref C ∧ t σ H1 fun vs H2 => sp (.ref C :: vs) H2 Q (E σ)
theorem pe_cmethS (he : PE X o ta) (r : ClX.CRead X.K C mc) (c : ClX.CMet X.K C mc m p g) (F : FnR X.prog X.w X.K X.mg X.base CX k g sp) (hr : Room k X.A) (hx : ∀ σ, PassesAt CX X σ (E σ)) (ha : PA X (e :: es) t)
    (h1 : starEach (e :: es) X.env = (false, eval e X.env) :: starEach es X.env := by rfl) (h2 : (backTo pos (starEach es X.env)).any (·.1) = false := by rfl)
    (h3 : eval (.Call (.Attribute o m apos) (e :: es) [] pos) X.env = (do
      let ov ← eval o X.env
      standAt apos.atName
      let (f, first) ← holding [ov] (getMethod ov m pl)
      callWith pos f first (backTo pos (starEach (e :: es) X.env)) (backToKw pos (keywordEach [] X.env))) := by rfl) :
    PE X (.Call (.Attribute o m apos) (e :: es) [] pos) (tCMethS C sp E ta t) := by
  refine ⟨fun pins s σ H Q I h => ?_⟩
  refine PySem.W.methodCall_KW (pl := pl) (thn (he.run pins s σ H _ I h) fun u s1 ⟨x, H1, I1, rx, ex, q⟩ => ?_) h3
  subst ex
  obtain rfl : u = Value.ref C := rx
  refine ClX.getmethcm_ok I1 r c fun s2 I2 => ?_
  refine ClX.callwith_cm I2 (ClX.base_none I1 (Nat.le_refl _)) c.fi (thn (ha.run pos _ s2 σ H1 _ I2 q) fun us s3 ⟨vs, H2, I3, rv, q2⟩ => ⟨⟨ClX.pin_at I3, I3.kIn⟩, ?_⟩) h1 h2
  refine thn (wpAny_call (PySem.W.method_call (ClX.pin_at I3) (run_at (us := .ref C :: us) (vs := .ref C :: vs) F hr (hx σ) I3 (.cons rfl rv) q2))) fun _ _ y => ClX.unpinE y
end
section
variable {K : PySem.W.Frag} {σ : L2.St} {H : Hp} {Q : VK} {a D dd : Addr} {cls c : Value} {d : Option Addr} {i : Nat} {ts : Addr → Value → Option Addr → TS} {Wout : WX} {De : Ends} {te ta : TE} {tt : TA} {f : Str} {v : V} {sp : Sp} {E : L2.St → XK} {C : Addr}
theorem rd_wAs (e : PySem.W.exmOne K cls c = some true) (h : ∀ a, H a = none → ts a cls d ⟨fun σ' H' => De.nx (σ'.set i none) H', De.rt, fun σ' H' => De.bk (σ'.set i none) H', fun σ' H' => De.ct (σ'.set i none) H'⟩ (σ.set i (some (.ref a))) H) : wAs K c i ts Wout De cls d σ H :=
  ⟨true, e, fun _ => h, fun q => Bool.noConfusion q⟩
theorem rd_xf (h : te σ H fun x H1 => x = .ref a ∧ cls = .ref C ∧ ∃ (dd : Addr) (fs : List (Str × V)) (v : V), d = some dd ∧ H1 dd = some (.xd fs) ∧ fs.lookup f = some v ∧ Q v H1) : tXf a cls d C f te σ H Q := h
theorem rd_xfK (e : H dd = some (.xd [(f, v)])) (q : Q v H) : V.ref a = .ref a ∧ (Value.ref C) = .ref C ∧ ∃ (dd' : Addr) (fs : List (Str × V)) (v : V), (some dd) = some dd' ∧ H dd' = some (.xd fs) ∧ fs.lookup f = some v ∧ Q v H :=
  ⟨rfl, rfl, dd, _, v, rfl, e, by simp [List.lookup], q⟩
theorem rd_isX {u : Value} {b : Bool} {c : V} {fs : List (Str × V)} (e : H dd = some (.xd fs)) (k : ClsV c u) (h : PySem.W.kitOne K (.ref D) u = some b) (q : Q (.bl b) H) : rIsX K D a (.ref D) (some dd) [.ref a, c] H Q := ⟨c, u, b, dd, fs, rfl, rfl, rfl, e, k, h, q⟩
theorem rd_cmethS (h : ta σ H fun x H1 => x = .ref C ∧ tt σ H1 fun vs H2 => sp (.ref C :: vs) H2 Q (E σ)) : tCMethS C sp E ta tt σ H Q := h
theorem rd_callS (h : tt σ H fun vs H1 => sp vs H1 Q (E σ)) : tCallS sp E tt σ H Q := h
end
end Hk

/-! try with several clauses «except C as n» -/
namespace Hk
open PySem PySem.Spec PyProof.Rows L2
abbrev ClauseT := Value × Nat × (Addr → Value → Option Addr → TS)
/-- behind a suite its name is gone -/
def gone (i : Nat) (D : Ends) : Ends := ⟨fun σ H => D.nx (σ.set i none) H, D.rt, fun σ H => D.bk (σ.set i none) H, fun σ H => D.ct (σ.set i none) H⟩
/-- what the clauses want, one by one -/
def wCl (K : PySem.W.Frag) (Wout : WX) (D : Ends) : List ClauseT → WX
  | [] => Wout
  | (c, i, ts) :: more => fun cls d σ H => ∃ yes : Bool, PySem.W.exmOne K cls c = some yes ∧ (yes = true → ∀ ex, H ex = none → ts ex cls d (gone i D) (σ.set i (some (.ref ex))) H) ∧ (yes = false → wCl K Wout D more cls d σ H)
inductive Clauses (X : Cx) : List ExceptHandler → List ClauseT → Prop
  | nil : Clauses X [] []
  | cons {x n : Str} {c : Value} {i : Nat} {ts : Addr → Value → Option Addr → TS} {st : Stmt} {sts : List Stmt} {np hp : Pos} {hds : List ExceptHandler} {cl : List ClauseT} (hi : X.N[i]? = some n) (hk : X.env.kindOf n = some .local) (hc : Names X x c)
      (hsu : ∀ (ex : Addr) (eo : Obj) (cls : Value) (d : Option Addr) (pn : List (Addr × Obj)), Zc cls d eo → (∃ fs, eo.data = .fields fs) → PSs (X.suite ex ((ex, eo) :: pn)) (st :: sts) (ts ex cls d)) (more : Clauses X hds cl) :
      Clauses X (.ExceptHandler (some (.Name x np)) (some n) (st :: sts) hp :: hds) ((c, i, ts) :: cl)
section
variable {X : Cx} {body : List Stmt} {hd : ExceptHandler} {hds : List ExceptHandler} {cl : List ClauseT} {pos : Pos} {tb : WX → TS} {Wout : WX}
theorem ps_tryC (e1 : X.stack = X.env :: X.outer) (e2 : X.env.frame = some X.env.locals) (nd : X.N.Nodup) (out : Takes X Wout)
    (bd : ∀ (W : WX) (pn : List (Addr × Obj)) (xe : Value → Shared → Prop), Takes (X.tr pn xe) W → PassesOwn (model X.prog X.w) X.A X.env xe → PSs (X.tr pn xe) body (tb W))
    (all : Clauses X (hd :: hds) cl) : PS X (.Try body (hd :: hds) [] [] pos) (fun D σ H => tb (wCl X.K Wout D cl) D σ H) := by
  refine ⟨fun pins s σ H D I want => ?_⟩
  have good := I.ok
  have fr : X.A.frames = some (X.env :: X.outer) := good.frames.trans (congrArg some e1)
  refine wpAny_Try_except (wpAny_mono ((bd (wCl X.K Wout D cl) (X.pn ++ pins)
    (fun u s1 => wpAny (model X.prog X.w) X.A (noteFrame u X.env)
      (fun _ s2 => wpAny (model X.prog X.w) X.A (setFlight u none)
        (fun _ s3 => wpAny (model X.prog X.w) X.A (handleBy u X.env (hd :: hds)) (SP X pins D) X.xe s3) X.xe s2) X.xe s1)
    (fun u s1 flown => ?_) PassesOwn.looking).run [] s σ H D (I.toTry _) want) (fun fl s1 ended => ?_) (fun _ _ z => z))
  · obtain ⟨ex, Bh, sB, pins1, σ1, H1, cls, d, rfl, JT, nB, upB, air, free, sameOs, sameG, wish⟩ := flown
    have J : Inv X pins σ1 H1 sB := JT.ofTry good
    have air1 : Sky Bh (X.env :: X.outer) ex (Zc cls d) X.env.locals s1.heap := e1 ▸ air
    refine Sky.land Zc.steady fr e2 air1 fun hL flL upL => ?_
    have JL : Inv X pins σ1 H1 { s1 with heap := hL } := J.landed nB flL.1 (upB.trans upL) sameOs sameG
    obtain ⟨eo, efs, atL, zL, dL⟩ := flL.there
    have out1 : ex ∉ frs (X.env :: X.outer) := fun inF => by
      obtain ⟨_, o1, at1, no1⟩ := flL.2.2.1.mem inF
      cases atL.symm.trans at1
      exact no1 _ dL
    have neL : ex ≠ X.env.locals := fun q => out1 (List.mem_filterMap.mpr ⟨X.env, List.mem_cons_self, e2.trans (congrArg some q.symm)⟩)
    have neF : ex ∉ X.fs := fun inF => by
      obtain ⟨en, inEn, q⟩ := List.mem_filterMap.mp inF
      exact out1 (List.mem_filterMap.mpr ⟨en, List.mem_cons_of_mem _ inEn, q⟩)
    have SL := JL.suite atL dL free neL neF
    have tyL : PySem.W.Looks (model X.prog X.w) hL (typeOf (.ref ex)) cls := fun A1 Q1 E1 s2 kp q => wpAny_typeOf_ref (kp _ _ atL) (by rw [zL.1]; exact q)
    have each : ∀ {hs1 : List ExceptHandler} {c1 : List ClauseT}, Clauses X hs1 c1 → wCl X.K Wout D c1 cls d σ1 H1 → wpAny (model X.prog X.w) X.A (handleBy (.ref ex) X.env hs1) (SP X pins D) X.xe { s1 with heap := hL } := by
      intro hs1 c1 ok1
      induction ok1 with
      | nil =>
        intro wish1
        have up1 : wpAny (model X.prog X.w) X.A (setFlight (.ref ex) X.env.frame) (fun _ s4 => wpAny (model X.prog X.w) X.A (throw (.ref ex) : Sem Flow) (SP X pins D) X.xe s4) X.xe { s1 with heap := hL } := by
          rw [e2]
          refine HandSPX.setFlight_upZ flL fun hU heldU upU => wpAny_throw (out _ _ ⟨ex, Bh, sB, pins, σ1, H1, cls, d, rfl, J, nB, (upB.trans upL).trans upU, .inr (.inr ?_), free, sameOs, sameG, wish1⟩)
          rw [e1]
          exact heldU
        obtain ⟨_, _, _, o1, fs1, T1, _, _, at1, _, d1, f1, _⟩ := id flL
        refine wpAny_handleBy_nil ?_
        unfold PySem.passOn
        refine wpAny_bind (wpAny_field at1 d1 f1 ?_)
        rw [if_neg (show ¬ ((Value.ref T1 == Value.none) = true) from by simp)]
        first | exact wpAny_bind (wpAny_pure (wpAny_bind up1)) | exact wpAny_bind up1
      | @cons x n c i ts st sts np hp hds2 cl2 hi hk hc hsu more ih =>
        intro wish1
        obtain ⟨yes, m1, ifY, ifN⟩ := wish1
        have name : ∀ {Q1 : Value → Shared → Prop} {E1 : Value → Shared → Prop}, Q1 c { s1 with heap := hL } → wpAny (model X.prog X.w) (X.A.mark (some (.ref ex))) (eval (.Name x np) X.env) Q1 E1 { s1 with heap := hL } := fun {Q1 E1} q => by
          rcases hc with ⟨gl, nod, gm | ⟨gm, gb, gn⟩⟩
          · exact ld_glob (X := X.suite ex ((ex, eo) :: (X.pn ++ pins))) SL gl gm q nod
          · exact ld_blt (X := X.suite ex ((ex, eo) :: (X.pn ++ pins))) SL gl gm gb q gn nod
        refine wpAny_handleBy_cons (codeAny_handlers_test (name ((PySem.W.exm_one (M := model X.prog X.w) JL.kIn tyL m1).here ?_))) (by intro q; cases q)
        cases yes with
        | false => exact ih (ifN rfl)
        | true =>
          refine codeAny_handlers_suite_as (HandSPX.lands_againZ flL fun hA flA upA => ?_)
          have JA : Inv X pins σ1 H1 { s1 with heap := hA } := J.landed nB flA.1 ((upB.trans upL).trans upA) sameOs sameG
          obtain ⟨eoA, fsA, atA, zA, dA⟩ := flA.there
          refine store_ok (X := X.suite ex ((ex, eoA) :: (X.pn ++ pins))) (v := .ref ex) (JA.suite atA dA free neL neF) nd hi (.inl hk) rfl (fun s5 S5 => ?_) (.inr hk)
          have last : ∀ {σ6 : L2.St} {H6 : Hp} {s6 : Shared} {Q6 : Shared → Prop}, Inv (X.suite ex ((ex, eoA) :: (X.pn ++ pins))) [] σ6 H6 s6 → (∀ s7, Inv X pins (σ6.set i none) H6 s7 → Q6 s7) →
              wpAny (model X.prog X.w) X.A (do bindName X.env n .none; unbindBehindTheSuite X.env n hp) (fun _ s7 => Q6 s7) X.xe s6 := fun S6 fin6 => gone_ok (S6.unsuite good) nd hi hk fin6
          refine wpAny_mono ((hsu ex eoA cls d (X.pn ++ pins) zA ⟨_, dA⟩).run [] s5 _ H1 _ S5 (ifY rfl ex free)) (fun fl s6 at6 => ?_) (fun _ _ z => False.elim z)
          cases fl with
          | ret u => exact let ⟨_, _, _, S6, r6, q6⟩ := at6; last S6 fun _ J7 => ⟨_, _, _, J7, r6, q6⟩
          | next => exact let ⟨_, _, S6, q6⟩ := at6; last S6 fun _ J7 => ⟨_, _, J7, q6⟩
          | brk => exact let ⟨_, _, S6, q6⟩ := at6; last S6 fun _ J7 => ⟨_, _, J7, q6⟩
          | cont => exact let ⟨_, _, S6, q6⟩ := at6; last S6 fun _ J7 => ⟨_, _, J7, q6⟩
    exact each all wish
  · cases fl with
    | ret u => exact let ⟨_, _, _, J1, r1, q1⟩ := ended; ⟨_, _, _, J1.ofTry good, r1, q1⟩
    | next => exact let ⟨_, _, J1, q1⟩ := ended; wpAny_execs_nil ⟨_, _, J1.ofTry good, q1⟩
    | brk => exact let ⟨_, _, J1, q1⟩ := ended; ⟨_, _, J1.ofTry good, q1⟩
    | cont => exact let ⟨_, _, J1, q1⟩ := ended; ⟨_, _, J1.ofTry good, q1⟩
end
section
variable {K : PySem.W.Frag} {σ : L2.St} {H : Hp} {cls c : Value} {d : Option Addr} {i : Nat} {ts : Addr → Value → Option Addr → TS} {Wout : WX} {De : Ends} {more : List ClauseT}
theorem rd_wY (e : PySem.W.exmOne K cls c = some true) (h : ∀ a, H a = none → ts a cls d ⟨fun σ' H' => De.nx (σ'.set i none) H', De.rt, fun σ' H' => De.bk (σ'.set i none) H', fun σ' H' => De.ct (σ'.set i none) H'⟩ (σ.set i (some (.ref a))) H) : wCl K Wout De ((c, i, ts) :: more) cls d σ H :=
  ⟨true, e, fun _ => h, fun q => Bool.noConfusion q⟩
theorem rd_wN (e : PySem.W.exmOne K cls c = some false) (h : wCl K Wout De more cls d σ H) : wCl K Wout De ((c, i, ts) :: more) cls d σ H :=
  ⟨false, e, fun q => Bool.noConfusion q, fun _ => h⟩
end
end Hk

/-! A written dict with int keys; comprehensions over texts; dict comprehensions; bags of three numbers. -/
namespace Hk
open PySem PySem.Spec PyProof.Rows L2
/-! ### d[i], d a written dict {int: ..} -/
def EntsI : List DictEntry → List (Int × Addr) → Prop
  | [], [] => True
  | e :: es, (i, a) :: r => (∃ t, e.key = .int i t) ∧ e.hash = hashInt i ∧ e.val = .ref a ∧ EntsI es r
  | _, _ => False
def KDictI (K : PySem.W.Frag) (d : Addr) (kvs : List (Int × Addr)) : Prop := ∃ es n, K.lookup d = some ⟨.type "dict", none, .dict es n, #[]⟩ ∧ EntsI es.toList kvs
theorem entsI_keys {prog : Program} {w : World} : ∀ {es : List DictEntry} {kvs : List (Int × Addr)}, EntsI es kvs → ∀ e ∈ es, ∃ k, (intKind prog w).is k e.key = true ∧ e.hash = (intKind prog w).hash k
  | [], [], _, e, he => by cases he
  | e0 :: es, (i, a) :: r, h, e, he => by
    obtain ⟨⟨t, h1⟩, h2, _, h4⟩ := h
    rcases List.mem_cons.mp he with rfl | he
    · exact ⟨i, by rw [h1]; show (i == i) = true; simp, h2⟩
    · exact entsI_keys h4 e he
  | [], _ :: _, h, _, _ => h.elim
  | _ :: _, [], h, _, _ => h.elim
theorem entsI_find : ∀ {es : List DictEntry} {kvs : List (Int × Addr)} {k : Int} {a : Addr}, EntsI es kvs → kvs.lookup k = some a → (es.find? fun e => Value.isInt k e.key).map (·.val) = some (.ref a)
  | [], [], _, _, _, h => by cases h
  | e0 :: es, (i, b) :: r, k, a, h, hl => by
    obtain ⟨⟨t, h1⟩, _, h3, h4⟩ := h
    by_cases e : k = i
    · subst e
      rw [List.lookup_cons_self] at hl
      cases hl
      have : Value.isInt k e0.key = true := by rw [h1]; show (k == k) = true; simp
      rw [List.find?_cons_of_pos (p := fun e : DictEntry => Value.isInt k e.key) this]
      show some e0.val = _
      rw [h3]
    · rw [List.lookup_cons] at hl
      have ne : (k == i) = false := by simp [e]
      rw [ne] at hl
      have : ¬ Value.isInt k e0.key = true := by
        rw [h1]
        show ¬ (i == k) = true
        have e' : ¬ i = k := fun z => e z.symm
        simp [e']
      rw [List.find?_cons_of_neg (p := fun e : DictEntry => Value.isInt k e.key) this]
      exact entsI_find h4 hl
  | [], _ :: _, _, _, h, _ => h.elim
  | _ :: _, [], _, _, h, _ => h.elim
theorem kdI_map {K : PySem.W.Frag} {prog : Program} {w : World} {h : Heap} {d : Addr} {kvs : List (Int × Addr)} (X : K.In h) (D : KDictI K d kvs) : ∃ f, h.MapOf (intKind prog w) d f ∧ ∀ k a, kvs.lookup k = some a → f k = some (.ref a) := by
  obtain ⟨es, n, hl, he⟩ := D
  refine ⟨fun k => findBy Value.isInt es k, ⟨_, es, n, X _ _ hl, ⟨rfl, rfl, rfl⟩, rfl, fun e h => entsI_keys he e (Array.mem_toList_iff.mpr h), fun _ => rfl⟩, fun k a hk => ?_⟩
  obtain ⟨l⟩ := es
  show (Array.find? _ _).map _ = _
  rw [List.find?_toArray]
  exact entsI_find he hk
section
variable {X : Cx} {K : PySem.W.Frag} {o i : Expr} {to ti : TE} {pos : Pos} {d : Addr} {kvs : List (Int × Addr)}
def tKI (d : Addr) (kvs : List (Int × Addr)) (to ti : TE) : TE := fun σ H Q => to σ H fun x H1 => ti σ H1 fun y H2 => ∃ (k : Int) (a : Addr), x = .ref d ∧ y = .int k ∧ kvs.lookup k = some a ∧ Q (.ref a) H2
theorem pe_kdI (D : KDictI K d kvs) (ho : PE X o to) (hi : PE X i ti) (hs : NoSl i) (hK : X.K = K := by rfl) : PE X (.Subscript o i pos) (tKI d kvs to ti) := by
  subst hK
  refine ⟨fun pins s σ H Q I h => ?_⟩
  refine subD_of PySem.F.slot_dict_getitem.lookup hs (thn (ho.run pins s σ H _ I h) fun u s1 ⟨x, H1, I1, rx, q1⟩ => thn (hi.run pins s1 σ H1 _ I1 q1) fun iv s2 ⟨y, H2, I2, ry, k, a, ex, ey, hk, q2⟩ => ?_)
  subst ex ey
  obtain rfl : u = Value.ref d := rx
  obtain ⟨t, rfl⟩ := ry
  obtain ⟨f, hm, hf⟩ := kdI_map (prog := X.prog) (w := X.w) I2.kIn D
  refine ⟨hm.typeIs, wpAny_getItem_of (knd := intKind X.prog X.w) (k := k) ?_ hm (hf k a hk) ⟨.ref a, H2, I2.tok _, rfl, q2⟩⟩
  show (k == k) = true
  simp
theorem rd_kdI {σ : L2.St} {H : Hp} {Q : VK} (h : to σ H fun x H1 => ti σ H1 fun y H2 => ∃ (k : Int) (a : Addr), x = .ref d ∧ y = .int k ∧ kvs.lookup k = some a ∧ Q (.ref a) H2) : tKI d kvs to ti σ H Q := h
end
theorem rd_chain {r r' : R2} {ta tb tc : TE} {σ : L2.St} {H : Hp} {Q : VK} (h : ta σ H fun x H1 => tb σ H1 fun y H2 => r x y H2 fun z H3 => ∃ k, z = .bl k ∧ (if k = true then tc σ H3 fun w' H4 => r' y w' H4 Q else Q (.bl false) H3)) : tChain r r' ta tb tc σ H Q := h
/-! ### comprehensions over a text -/
section
variable {K : PySem.W.Frag} {σ : L2.St} {F H : Hp} {g : TG} {tt : TT} {te : TE} {vs : List Nat} {Q : VK}
theorem lcPS {l : List Nat} (A : Nat → Hp → List V → Prop) (fh : Same F H) (hz : l.length ≤ 100000)
    (a0 : A 0 F []) (al : ∀ i F' acc, A i F' acc → acc.length ≤ i) (am : ∀ i F1 F2 acc, Same F1 F2 → A i F1 acc → A i F2 acc)
    (turn : ∀ (i c : Nat) F1 H1 acc, l[i]? = some c → Grow [] F H F1 H1 → A i F1 acc → ∀ (Done : Hp → Prop) (Kept : VK), (∀ F2 H2, Grow [] F1 H1 F2 H2 → A (i + 1) F2 acc → Done H2) →
      (∀ F2 H2 y, Grow [] F1 H1 F2 H2 → A (i + 1) F2 (acc ++ [y]) → Kept y H2) →
      g (.str (tx [c])) (wipe σ vs) H1 fun σ2 H2 => wipe σ2 vs = wipe σ vs ∧ tt σ2 H2 fun b H3 => if b = true then te σ2 H3 Kept else Done H3)
    (q : ∀ F' H' D acc, Grow [] F H F' H' → H D = none → Hold F' H' D (.lst acc) → A l.length F' acc → Q (.ref D) H') : LcK (Its (tx l)) g tt te vs σ H Q := by
  have hl : (tx l).cps.size = l.length := by simp [tx]
  refine lcG (n := l.length) (X := fun i x => ∃ c, l[i]? = some c ∧ x = .str (tx [c])) A (fun _ _ => True) fh hz (fun H' s => by show (tx l).cps.size ≤ l.length; rw [hl]; exact Nat.le_refl _) (fun i H' s hi => by show i < (tx l).cps.size; rw [hl]; exact hi)
    (fun i H1 x H2 hi s1 y => ?_) a0 trivial (fun _ _ _ _ _ _ _ => trivial) al am
    (fun i x F1 H1 acc hi hx' g1 _ a1 Done Kept hd hk => ?_)
    (fun _ _ => by simp) fun F' H' D acc g' _ n h a' => q F' H' D acc g' n h a'
  · obtain ⟨e, c, hc, rfl⟩ := y
    exact ⟨e, c, by simpa [tx] using hc, rfl⟩
  · obtain ⟨c, hc, rfl⟩ := hx'
    exact turn i c F1 H1 acc hc g1 a1 Done Kept (fun F2 H2 g2 a2 => hd F2 H2 g2 trivial a2) fun F2 H2 y g2 a2 => hk F2 H2 y g2 trivial a2
def IStr (v : V) (H : Hp) (R : It → Hp → Prop) : Prop := ∃ x, v = .str x ∧ R (Its x) H
theorem rd_iStr {te : TE} {R : It → Hp → Prop} (h : te σ H fun v H1 => IStr v H1 R) : iStr te σ H R := h
theorem rd_IStr {x : Str} {R : It → Hp → Prop} (h : R (Its x) H) : IStr (.str x) H R := ⟨x, rfl, h⟩
end
/-! ### dict comprehensions over a frozen list -/
section
variable {K : PySem.W.Frag} {σ : L2.St} {F H : Hp} {g : TG} {tt : TT} {tk tv : TE} {vs : List Nat} {Q : VK} {wi : TI}
def DcK (J : It) (g : TG) (tt : TT) (tk tv : TE) (vs : List Nat) (σ : L2.St) (H1 : Hp) (Q : VK) : Prop := ∀ D, H1 D = none → ∃ W : Nat → Nat → Hp → Prop, (∃ m, W 0 m (upd H1 D (.dK []))) ∧ ∀ i m H, W i m H →
  (J.stop i H ∧ Q (.ref D) H) ∨ (J.go i H ∧ ∃ Nx : Hp → Prop, (∀ H', Nx H' → ∃ m', m' < m ∧ W (i + 1) m' H') ∧ ∀ x H', J.yld i H x H' → g x (wipe σ vs) H' fun σ2 H2 => wipe σ2 vs = wipe σ vs ∧ tt σ2 H2 fun b H3 =>
    if b = true then tk σ2 H3 fun y H4 => tv σ2 H4 fun z H5 => ∃ kvs k, y = kV k ∧ H5 D = some (.dK kvs) ∧ kvs.length < sizeLine ∧ Nx (upd H5 D (.dK (putK kvs k z))) else Nx H3)
theorem rd_dc (h : wi σ H fun J H1 => DcK J g tt tk tv vs σ H1 Q) : tDc wi g tt tk tv vs σ H Q := h
theorem dcPL {a : Addr} {xs : List V} (A : Nat → Hp → List (Key × V) → Prop) (fh : Same F H) (hx : SqL K F a xs) (hz : xs.length ≤ 100000)
    (a0 : A 0 F []) (al : ∀ i F' kvs, A i F' kvs → kvs.length ≤ i) (am : ∀ i F1 F2 kvs, Same F1 F2 → A i F1 kvs → A i F2 kvs)
    (turn : ∀ i x F1 H1 kvs, xs[i]? = some x → Grow [] F H F1 H1 → A i F1 kvs → ∀ (Kept : V → V → Hp → Prop),
      (∀ F2 H2 k z, Grow [] F1 H1 F2 H2 → A (i + 1) F2 (putK kvs k z) → Kept (kV k) z H2) →
      g x (wipe σ vs) H1 fun σ2 H2 => wipe σ2 vs = wipe σ vs ∧ tt σ2 H2 fun b H3 => b = true ∧ tk σ2 H3 fun y H4 => tv σ2 H4 fun z H5 => Kept y z H5)
    (q : ∀ F' H' D kvs, Grow [] F H F' H' → H D = none → Hold F' H' D (.dK kvs) → A xs.length F' kvs → Q (.ref D) H') (mono : ∀ (P1 P2 : Bool → Hp → Prop) σ H, (∀ b H', P1 b H' → P2 b H') → tt σ H P1 → tt σ H P2) (gm : ∀ (P1 P2 : L2.St → Hp → Prop) x σ H, (∀ s H', P1 s H' → P2 s H') → g x σ H P1 → g x σ H P2)
    (km : ∀ (P1 P2 : V → Hp → Prop) σ H, (∀ v H', P1 v H' → P2 v H') → tk σ H P1 → tk σ H P2) (vm : ∀ (P1 P2 : V → Hp → Prop) σ H, (∀ v H', P1 v H' → P2 v H') → tv σ H P1 → tv σ H P2) : DcK (Itl K a) g tt tk tv vs σ H Q := by
  intro D hD
  have fD : F D = none := fh.free hD
  refine ⟨fun i m H' => m = xs.length - i ∧ i ≤ xs.length ∧ ∃ F' kvs, Grow [] F H F' H' ∧ Hold F' H' D (.dK kvs) ∧ A i F' kvs, ⟨xs.length, by simp, Nat.zero_le _, F, [], (Grow.refl fh).newO hD, Hold.new fh hD, a0⟩, ?_⟩
  rintro i m H1 ⟨rfl, hi, F1, kvs, g1, d1, a1⟩
  have s1 : Same F H1 := g1.ff.trans g1.fh
  by_cases hlt : i < xs.length
  · refine .inr ⟨⟨xs, xs[i], s1.seq hx, by simp [hlt]⟩, fun H' => i + 1 ≤ xs.length ∧ ∃ F' kvs, Grow [] F H F' H' ∧ Hold F' H' D (.dK kvs) ∧ A (i + 1) F' kvs, fun H' p' => ⟨xs.length - (i + 1), by omega, rfl, p'⟩, fun x H2 y => ?_⟩
    obtain ⟨rfl, y⟩ := y
    have hxi := y xs (s1.seq hx)
    have t := turn i x F1 H2 kvs hxi g1 a1 (fun y z H5 => ∃ kvs k, y = kV k ∧ H5 D = some (.dK kvs) ∧ kvs.length < sizeLine ∧ (i + 1 ≤ xs.length ∧ ∃ F' kvs', Grow [] F H F' (upd H5 D (.dK (putK kvs k z))) ∧ Hold F' (upd H5 D (.dK (putK kvs k z))) D (.dK kvs') ∧ A (i + 1) F' kvs')) (fun F2 H3 k z g2 a2 => ?_)
    · refine gm _ _ _ _ _ (fun σ2 H3 h => ⟨h.1, mono _ _ _ _ (fun b H4 hb => ?_) h.2⟩) t
      rw [if_pos hb.1]
      exact hb.2
    · have d2 := d1.go0 g2
      refine ⟨kvs, k, rfl, d2.h, ?_, hlt, F2, _, (g1.trans g2).mut d2.f (.inr hD), d2.put, a2⟩
      have := al _ _ _ a1
      rw [sizeLine_eq]
      omega
  · have e : i = xs.length := by omega
    subst e
    exact .inl ⟨⟨xs, s1.seq hx, Nat.le_refl _⟩, q F1 H1 D kvs g1 hD d1 a1⟩
end
/-! ### bags of three numbers -/
structure Bag3 (F H : Hp) (b : Addr) : Prop where
  fh : Same F H
  fb : F b = none
  hb : ∃ d m c : Int, 0 ≤ c ∧ c < 2 ^ 100 ∧ H b = some (.lst [.int d, .int m, .int c])
section
variable {K : PySem.W.Frag} {F H F' H' : Hp} {b : Addr}
theorem Bag3.nn (h : Bag3 F H b) : H b ≠ none := by
  obtain ⟨d, m, c, _, _, e⟩ := h.hb
  rw [e]; intro z; cases z
theorem Bag3.go0 (h : Bag3 F H b) (g : Grow [] F H F' H') : Bag3 F' H' b := by
  obtain ⟨d, m, c, h1, h2, e⟩ := h.hb
  exact ⟨g.fh, (g.own b h.fb h.nn).1, d, m, c, h1, h2, g.hh b _ (by simp) e⟩
theorem Bag3.mut {p : Addr} {o u : HO} (h : Bag3 F H b) (hp : Hold F H p o) (n : p ≠ b) : Bag3 F (upd H p u) b := by
  obtain ⟨d, m, c, h1, h2, e⟩ := h.hb
  exact ⟨same_mut h.fh hp.f, h.fb, d, m, c, h1, h2, upd_old n.symm e⟩
end
section
variable {K : PySem.W.Frag} {σ : L2.St} {F H : Hp} {g : TG} {tt : TT} {te : TE} {vs : List Nat} {Q : VK}
theorem zup3 {b : Addr} (hb : Bag3 F H b) : ∀ F' H' D o, Bag3 F' H' b → H D = none → F' D = none → Bag3 F' (upd H' D o) b := fun F' H' D o z n f => by
  obtain ⟨d, m, c, h1, h2, e⟩ := z.hb
  exact ⟨same_mut z.fh f, z.fb, d, m, c, h1, h2, upd_old (fun q => hb.nn (q ▸ n)) e⟩
/-- with draws, over a frozen list -/
theorem lcB3L {a b : Addr} {xs : List V} (A : Nat → Hp → List V → Prop) (hb : Bag3 F H b) (hx : SqL K F a xs) (hz : xs.length ≤ 100000)
    (a0 : A 0 F []) (al : ∀ i F' acc, A i F' acc → acc.length ≤ i) (am : ∀ i F1 F2 acc, Same F1 F2 → A i F1 acc → A i F2 acc)
    (turn : ∀ i x F1 H1 acc, i < xs.length → xs[i]? = some x → Grow [b] F H F1 H1 → Bag3 F1 H1 b → A i F1 acc → ∀ (Done : Hp → Prop) (Kept : VK), (∀ F2 H2, Grow [b] F1 H1 F2 H2 → Bag3 F2 H2 b → A (i + 1) F2 acc → Done H2) →
      (∀ F2 H2 y, Grow [b] F1 H1 F2 H2 → Bag3 F2 H2 b → A (i + 1) F2 (acc ++ [y]) → Kept y H2) →
      g x (wipe σ vs) H1 fun σ2 H2 => wipe σ2 vs = wipe σ vs ∧ tt σ2 H2 fun b H3 => if b = true then te σ2 H3 Kept else Done H3)
    (q : ∀ F' H' D acc, Grow [b] F H F' H' → Bag3 F' H' b → H D = none → Hold F' H' D (.lst acc) → A xs.length F' acc → Q (.ref D) H') : LcK (Itl K a) g tt te vs σ H Q :=
  lcG (X := fun i x => xs[i]? = some x) A (fun F' H' => Bag3 F' H' b) hb.fh hz (fun H' s => ⟨xs, s.seq hx, Nat.le_refl _⟩) (fun i H' s hi => ⟨xs, xs[i], s.seq hx, by simp [hi]⟩)
    (fun i H1 x H2 hi s1 y => by obtain ⟨rfl, y⟩ := y; exact ⟨rfl, y xs (s1.seq hx)⟩) a0 hb (zup3 hb) al am turn
    (fun D n h => hb.nn (by rw [List.mem_singleton.mp h] at n; exact n)) q
/-- with draws, over range(n) -/
theorem lcB3R {n : Nat} {b : Addr} (A : Nat → Hp → List V → Prop) (hb : Bag3 F H b) (hz : n ≤ 100000)
    (a0 : A 0 F []) (al : ∀ i F' acc, A i F' acc → acc.length ≤ i) (am : ∀ i F1 F2 acc, Same F1 F2 → A i F1 acc → A i F2 acc)
    (turn : ∀ (i : Nat) F1 H1 acc, i < n → Grow [b] F H F1 H1 → Bag3 F1 H1 b → A i F1 acc → ∀ (Done : Hp → Prop) (Kept : VK), (∀ F2 H2, Grow [b] F1 H1 F2 H2 → Bag3 F2 H2 b → A (i + 1) F2 acc → Done H2) →
      (∀ F2 H2 y, Grow [b] F1 H1 F2 H2 → Bag3 F2 H2 b → A (i + 1) F2 (acc ++ [y]) → Kept y H2) →
      g (.int (i : Int)) (wipe σ vs) H1 fun σ2 H2 => wipe σ2 vs = wipe σ vs ∧ tt σ2 H2 fun b H3 => if b = true then te σ2 H3 Kept else Done H3)
    (q : ∀ F' H' D acc, Grow [b] F H F' H' → Bag3 F' H' b → H D = none → Hold F' H' D (.lst acc) → A n F' acc → Q (.ref D) H') : LcK (Itr 0 n) g tt te vs σ H Q :=
  lcG (X := fun i x => x = .int (i : Int)) A (fun F' H' => Bag3 F' H' b) hb.fh hz (fun H' s => Nat.le_refl _) (fun i H' s hi => hi)
    (fun i H1 x H2 hi s1 y => rng_yld y) a0 hb (zup3 hb) al am (fun i x F1 H1 acc hi hx' => by subst hx'; exact turn i F1 H1 acc hi)
    (fun D n h => hb.nn (by rw [List.mem_singleton.mp h] at n; exact n)) q
end
end Hk

/-! x += y of lists, texts split at a sign, xs[::-1]. -/
namespace Hk
open PySem PySem.Spec PyProof.Rows L2
section
variable {K : PySem.W.Frag} {σ : L2.St} {F H : Hp} {Q : VK} {te : TE} {ti : TIp} {nx bk ct : L2.St → Hp → Prop} {rt : VK} {n : Nat} {v : V}
theorem rd_augN (e : σ[n]? = some (some v)) (h : te σ H fun y H1 => ti v y H1 fun z H2 => nx (σ.set n (some z)) H2) : tAug n te ti ⟨nx, rt, bk, ct⟩ σ H := ⟨v, e, h⟩
theorem rd_ext2 {l b : Addr} {xs zs : List V} (h1 : H l = some (.lst xs)) (h2 : H b = some (.lst zs)) (hz : xs.length + zs.length ≤ 100000) (q : Q (.ref l) (upd H l (.lst (xs ++ zs)))) : rExt2 (.ref l) (.ref b) H Q := ⟨l, b, xs, zs, rfl, rfl, h1, h2, sz_of hz, q⟩
def RevK (K : PySem.W.Frag) (x : V) (H1 : Hp) (Q : VK) : Prop := ∃ a xs, x = .ref a ∧ SqL K H1 a xs ∧ ∀ p, H1 p = none → Q (.ref p) (upd H1 p (.lst xs.reverse))
theorem rd_revL (h : te σ H fun x H1 => RevK K x H1 Q) : tRevL K te σ H Q := h
theorem new_rev {r : Addr} {xs : List V} (fh : Same F H) (h : SqL K H r xs) (k : ∀ F' H' p, Grow [] F H F' H' → H p = none → F' p = some (.lst xs.reverse) → Q (.ref p) H') : RevK K (.ref r) H Q :=
  ⟨r, xs, rfl, h, fun l hl => k (upd F l (.lst xs.reverse)) _ l ((Grow.refl fh).new hl) hl upd_same⟩
theorem pg_tupK {X : Cx} {pos : Pos} {es : List Expr} {k : Nat} {t : TGs} {n : Nat} (hc : X.calm = true) (h : PGs X es t) (hK : X.K = K := by rfl)
    (hn : (assignEach es X.env).length = n := by rfl) (hst : (assignEach es X.env).findIdx? (·.1) = none := by rfl) : PG X (.Tuple es k pos) (gTup K n t) := hK ▸ pg_tup hc h hn hst
/-- text.split(c), c one sign -/
theorem new_split {l : List Nat} {c : Nat} (fh : Same F H) (hc : c < 256) (hl : l.length ≤ 100000) (k : ∀ F' H' p, Grow [] F H F' H' → H p = none → F' p = some (.lst ((TL.spl [c] 0 [] l).map wd)) → Q (.ref p) H') : SplitK (.str (tx l)) [.str (tx [c])] H Q := by
  refine ⟨_, _, rfl, rfl, rfl, by rw [tx_len]; exact Nat.le_trans (by omega : l.length + 2 ≤ 100002) (by decide), fun p hp => ?_⟩
  have e : Txt.split (tx l) (tx [c]) = (TL.spl [c] 0 [] l).map tx := SX.split_S (a := l) (b := [c]) (by simp) (by simp [hc])
  rw [e, List.map_map]
  exact k (upd F p (.lst ((TL.spl [c] 0 [] l).map wd))) _ p ((Grow.refl fh).new hp) hp upd_same
end
end Hk

/-! list(text), xs.insert(i, y). -/
namespace Hk
open PySem PySem.Spec PyProof.Rows L2
section
variable {X : Cx}
def rListS : List V → Hp → VK → Prop := fun xs H Q => ∃ z : Str, xs = [.str z] ∧ z.cps.size ≤ sizeLine ∧ ∀ q, H q = none → Q (.ref q) (upd H q (.lst (z.cps.toList.map fun c => V.str ⟨#[c]⟩)))
theorem call_listS (hc : X.calm = true) : CallR X (.type "list") rListS := by
  intro pins s σ H xs us Q I rxs h
  obtain ⟨z, rfl, hz, q⟩ := h
  obtain ⟨u, rfl, ru⟩ := rxs.one
  obtain ⟨t, rfl⟩ := ru
  refine call_list_str (I.ok.hd hc) z t (fun h' tk acc c' hk e hi => ?_) hz
  refine ⟨.ref s.heap.objs.size, upd H s.heap.objs.size (.lst (z.cps.toList.map fun c => V.str ⟨#[c]⟩)), I.laid hk (Nat.le_refl _) ⟨by rw [List.length_map, Array.length_toList]; exact hz, acc.toList, c', ?_, by rw [Array.toArray_toList]; exact e⟩, rfl, q _ (I.hok.fresh (Nat.le_refl _))⟩
  refine vals_of_idx _ _ (by rw [List.length_map, Array.length_toList, Array.length_toList]; exact hi.1) fun j u hj => ?_
  obtain ⟨c, t', hc, rfl⟩ := hi.2 j u (by rw [← Array.getElem?_toList]; exact hj)
  exact ⟨.str ⟨#[c]⟩, by rw [List.getElem?_map, Array.getElem?_toList, hc]; rfl, ⟨_, rfl⟩⟩
def rInsert : V → List V → Hp → VK → Prop := fun x vs H Q => ∃ (l : Addr) (xs : List V) (i : Int) (y : V), x = .ref l ∧ vs = [.int i, y] ∧ H l = some (.lst xs) ∧ xs.length < sizeLine ∧ 0 ≤ i ∧ i < 2 ^ 63 ∧ Q .non (upd H l (.lst (xs.take i.toNat ++ [y] ++ xs.drop i.toNat)))
theorem mt_insertR : MtR X "list.insert" rInsert := mt_insert
end
section
variable {F H : Hp} {Q : VK}
theorem rd_listS {l : List Nat} (hl : l.length ≤ 100000) (q : ∀ p, H p = none → Q (.ref p) (upd H p (.lst ((l.map fun c => [c]).map wd)))) : rListS [.str (tx l)] H Q := by
  refine ⟨_, rfl, by show l.toArray.size ≤ sizeLine; rw [List.size_toArray]; exact sz_of hl, fun p hp => ?_⟩
  have e : (tx l).cps.toList.map (fun c => V.str ⟨#[c]⟩) = (l.map fun c => [c]).map wd := by
    rw [List.map_map]
    rfl
  rw [e]
  exact q p hp
theorem rd_insert {l : Addr} {xs : List V} {i : Nat} {y : V} (h : H l = some (.lst xs)) (hz : xs.length < 10000) (hi : i < 10000) (q : Q .non (upd H l (.lst (xs.take i ++ [y] ++ xs.drop i)))) : rInsert (.ref l) [.int (i : Nat), y] H Q :=
  ⟨l, xs, _, y, rfl, rfl, h, sz_lt (by omega), by omega, by omega, by rw [Int.toNat_natCast]; exact q⟩
end
end Hk

/-! Static methods with keyword-only parameters, of a class and of an instance; y in d; except without a name; comprehensions that write. -/
namespace Hk
open PySem PySem.Spec PyProof.Rows L2
/-- the last parameter is keyword-only and left out -/
theorem binds_kw {K : PySem.W.Frag} {D : Addr} {fd : FuncData} {ps : List Str} {nm : Str} {v : Value} {n : Nat} (h : PySem.W.nsIn K D nm = some (some v)) (hn : n + 1 = ps.length) (hb : ∀ us : List Value, us.length = n → KwChain D [(nm, v)] (bindArgs fd ⟨us, []⟩) (ps.zip (us ++ [v]))) : Binds K fd ps [v] := fun s us X hlen =>
  BindsTo.of_looks fun M => KwChain.looks X (fun q hq => by rw [List.mem_singleton.mp hq]; exact h) (hb us (by rw [List.length_append, List.length_singleton] at hlen; omega))
section
variable {X : Cx} {CX : CXT} {k : Nat} {C g f : Addr} {mc : Value} {sp : Sp} {E : XK} {o e : Expr} {es : List Expr} {kws : List Keyword} {m x : Str} {pos apos p : Pos} {ta : TE} {t tk : TA} {pl : Sem Bool} {fd : FuncData} {ps ks : List Str} {dvs : List V} {ds : List Value}
/-- C.m(e, ..), defaults behind -/
def tSMethD (C : Addr) (sp : Sp) (dvs : List V) (E : XK) (ta : TE) (t : TA) : TE := fun σ H Q => ta σ H fun x H1 => x = .ref C ∧ t σ H1 fun vs H2 => sp (vs ++ dvs) H2 Q E
theorem pe_smethD (he : PE X o ta) (c : SMet X.K C mc m g) (F : FnOk X.prog X.w X.K X.mg X.base CX k g fd ps sp) (hr : Room k X.A) (hb : Binds X.K fd ps ds) (hd : Vals dvs ds) (hx : Passes CX X E) (ha : PA X (e :: es) t)
    (hst : starEach (e :: es) X.env = (false, eval e X.env) :: starEach es X.env := by rfl) (hpl : (backTo pos (starEach es X.env)).any (·.1) = false := by rfl)
    (ht : eval (.Call (.Attribute o m apos) (e :: es) [] pos) X.env = (do
      let ov ← eval o X.env
      standAt apos.atName
      let (f, first) ← holding [ov] (getMethod ov m pl)
      callWith pos f first (backTo pos (starEach (e :: es) X.env)) (backToKw pos (keywordEach [] X.env))) := by rfl) :
    PE X (.Call (.Attribute o m apos) (e :: es) [] pos) (tSMethD C sp dvs E ta t) := by
  refine ⟨fun pins s σ H Q I h => ?_⟩
  refine PySem.W.methodCall_KW (pl := pl) (thn (he.run pins s σ H _ I h) fun u s1 ⟨x, H1, I1, rx, ex, q⟩ => ?_) ht
  subst ex
  obtain rfl : u = Value.ref C := rx
  refine getmethsm_ok I1 c fun s2 I2 => ?_
  refine PySem.W.callWith_K (first := []) (h₀ := X.base) I.ok.mod.kin c.kp (thn (ha.run pos pins s2 σ H1 _ I2 q) fun us s3 ⟨vs, H2, I3, r, q2⟩ => ⟨I3.kIn, ?_⟩) hst hpl
  exact run_fn F hr hb hd hx I3 r q2
variable {gg : List Value → List Value → List Value} {gV : List V → List V → List V}
/-- C.m(e, .., k = v, ..) -/
def tSMethPK (C : Addr) (sp : Sp) (gV : List V → List V → List V) (E : XK) (ta : TE) (t tk : TA) : TE := fun σ H Q => ta σ H fun x H1 => x = .ref C ∧ t σ H1 fun vs H2 => tk σ H2 fun zs H3 => sp (gV vs zs) H3 Q E
theorem pe_smethPK (he : PE X o ta) (c : SMet X.K C mc m g) (F : FnOk X.prog X.w X.K X.mg X.base CX k g fd ps sp) (hr : Room k X.A) (hb : KBinds X.K fd ps ks gg gV) (hx : Passes CX X E) (ha : PA X (e :: es) t) (hkw : PK X kws tk)
    (hall : (backToKw pos (keywordEach kws X.env)).all (·.1.isSome) = true := by rfl) (hks : (backToKw pos (keywordEach kws X.env)).filterMap (·.1) = ks := by rfl)
    (hst : starEach (e :: es) X.env = (false, eval e X.env) :: starEach es X.env := by rfl)
    (hpl : ((backTo pos (starEach (e :: es) X.env)).any (·.1) || (backToKw pos (keywordEach kws X.env)).any (·.1.isNone)) = false := by rfl)
    (ht : eval (.Call (.Attribute o m apos) (e :: es) kws pos) X.env = (do
      let ov ← eval o X.env
      standAt apos.atName
      let (f, first) ← holding [ov] (getMethod ov m pl)
      callWith pos f first (backTo pos (starEach (e :: es) X.env)) (backToKw pos (keywordEach kws X.env))) := by rfl) :
    PE X (.Call (.Attribute o m apos) (e :: es) kws pos) (tSMethPK C sp gV E ta t tk) := by
  refine ⟨fun pins s σ H Q I h => ?_⟩
  refine PySem.W.methodCall_KW (pl := pl) (thn (he.run pins s σ H _ I h) fun u s1 ⟨x, H1, I1, rx, ex, q⟩ => ?_) ht
  subst ex
  obtain rfl : u = Value.ref C := rx
  refine getmethsm_ok I1 c fun s2 I2 => ?_
  refine PySem.W.callWith_KW (first := []) (h₀ := X.base) I.ok.mod.kin c.kp hall (thn (ha.run pos pins s2 σ H1 _ I2 q) fun us s3 ⟨vs, H2, I3, r, q2⟩ => ?_) hpl hst
  refine thn (hkw.run pos pins s3 σ H2 _ I3 q2) fun ws s4 ⟨zs, H3, I4, rz, q3⟩ => ⟨I4.kIn, ?_⟩
  rw [hks]
  exact run_fnk F hr hb hx I4 r rz q3
/-- a static method, read off an instance -/
structure SMetI (K : PySem.W.Frag) (C : Addr) (m : Str) (p g : Addr) : Prop where
  at_ : PySem.W.findIn K (.ref C) m = some (some (.ref p))
  ty : PySem.W.typeIn K (.ref p) = some (.type "staticmethod")
  get : PySem.W.specialIn K (.ref p) "__get__" = some (some (.builtin "staticmethod.__get__"))
  tak : PySem.W.takesIn K (.ref p) = some false
  rec_ : ∃ rest, PySem.W.recIn K p "staticmethod" = some (.ref g :: rest)
  kp : PySem.W.keepIn K (.ref g) = true
theorem findObj_bindF {K : PySem.W.Frag} {C : Addr} {od : Obj} {name : Str} {a gt : Value} (hh : PySem.W.hasDictIn K C = true) (ha : PySem.W.findIn K (.ref C) name = some (some a)) (hg : PySem.W.specialIn K a "__get__" = some (some gt)) (ht : PySem.W.takesIn K a = some false) (hc : PySem.W.copiedNames.contains name = false) (hl : PySem.W.lookIn name od = some none) :
    PySem.W.findObj K C (some od) name = some (.bind gt a) := by
  obtain ⟨cd, hc', hd⟩ := PySem.W.any_some hh
  unfold PySem.W.findObj
  have ho : PySem.W.ownOf cd (some od) name = some none := by unfold PySem.W.ownOf; rw [if_pos hd]; exact hl
  rw [hc', Option.bind_some, ha, Option.bind_some]
  simp only [hg, ht, Option.bind_some, ho, hc, Bool.false_and, Bool.false_eq_true, if_false]
theorem getmethsmI_ok {pins : List (Addr × Obj)} {σ : L2.St} {H : Hp} {s : Shared} {a dx sp0 : Addr} {fs : List (Str × V)} {A : Around} {E' : Value → Shared → Prop} {Q : Value × List Value → Shared → Prop} (I : Inv X pins σ H s) (ea : H a = some (.ins C dx fs)) (c : Cls X.K C) (hm : SMetI X.K C m sp0 g) (l : fs.lookup m = none) (hc : PySem.W.copiedNames.contains m = false)
    (h : ∀ s', Inv X pins σ H s' → Q (.ref g, []) s') : wpAny (model X.prog X.w) A (getMethod (.ref a) m pl) Q E' s := by
  obtain ⟨mA, O, r, _, _, _⟩ := ins_get I.hok ea
  obtain ⟨od, J, lk⟩ := O.look
  obtain ⟨rest, hrec⟩ := hm.rec_
  have hm0 : mA m = none := by
    have := r m
    rw [l] at this
    cases z : mA m with
    | none => rfl
    | some v => rw [z] at this; exact this.elim
  refine PySem.W.method_usual I.kIn J (PySem.W.plainGet_of (c.get m)).1 (PySem.W.plainGet_of (c.get m)).2 hm.at_ ?_ ?_
  · show (PySem.W.typeIn X.K (.ref sp0)).any _ = true
    rw [hm.ty]
    decide +kernel
  · refine PySem.W.get_bind I.kIn J (PySem.W.plainGet_of (c.get m)).1 (findObj_bindF c.hd hm.at_ hm.get hm.tak hc (by rw [lk, hm0])) (PySem.W.plainGet_of (c.get m)).2 ?_
    refine wpAny_call (PySem.W.sm_get (s := { s with toks := s.toks + 1 }) I.kIn hrec (PySem.W.handed_on rfl ?_))
    exact h _ (I.tok _)
/-- o.m(e, .., k = v, ..), m a static method -/
def tSMethI (C : Addr) (m : Str) (sp : Sp) (gV : List V → List V → List V) (E : XK) (ta : TE) (t tk : TA) : TE := fun σ H Q => ta σ H fun x H1 => ∃ a dx fs, x = .ref a ∧ H1 a = some (.ins C dx fs) ∧ fs.lookup m = none ∧ t σ H1 fun vs H2 => tk σ H2 fun zs H3 => sp (gV vs zs) H3 Q E
theorem pe_smethI {sp0 : Addr} (he : PE X o ta) (cl : Cls X.K C) (c : SMetI X.K C m sp0 g) (F : FnOk X.prog X.w X.K X.mg X.base CX k g fd ps sp) (hr : Room k X.A) (hb : KBinds X.K fd ps ks gg gV) (hx : Passes CX X E) (ha : PA X (e :: es) t) (hkw : PK X kws tk)
    (hcn : PySem.W.copiedNames.contains m = false := by decide +kernel)
    (hall : (backToKw pos (keywordEach kws X.env)).all (·.1.isSome) = true := by rfl) (hks : (backToKw pos (keywordEach kws X.env)).filterMap (·.1) = ks := by rfl)
    (hst : starEach (e :: es) X.env = (false, eval e X.env) :: starEach es X.env := by rfl)
    (hpl : ((backTo pos (starEach (e :: es) X.env)).any (·.1) || (backToKw pos (keywordEach kws X.env)).any (·.1.isNone)) = false := by rfl)
    (ht : eval (.Call (.Attribute o m apos) (e :: es) kws pos) X.env = (do
      let ov ← eval o X.env
      standAt apos.atName
      let (f, first) ← holding [ov] (getMethod ov m pl)
      callWith pos f first (backTo pos (starEach (e :: es) X.env)) (backToKw pos (keywordEach kws X.env))) := by rfl) :
    PE X (.Call (.Attribute o m apos) (e :: es) kws pos) (tSMethI C m sp gV E ta t tk) := by
  refine ⟨fun pins s σ H Q I h => ?_⟩
  refine PySem.W.methodCall_KW (pl := pl) (thn (he.run pins s σ H _ I h) fun u s1 ⟨x, H1, I1, rx, a, dx, fs, ex, ea, l, q⟩ => ?_) ht
  subst ex
  obtain rfl : u = Value.ref a := rx
  refine getmethsmI_ok I1 ea cl c l hcn fun s2 I2 => ?_
  refine PySem.W.callWith_KW (first := []) (h₀ := X.base) I.ok.mod.kin c.kp hall (thn (ha.run pos pins s2 σ H1 _ I2 q) fun us s3 ⟨vs, H2, I3, r, q2⟩ => ?_) hpl hst
  refine thn (hkw.run pos pins s3 σ H2 _ I3 q2) fun ws s4 ⟨zs, H3, I4, rz, q3⟩ => ⟨I4.kIn, ?_⟩
  rw [hks]
  exact run_fnk F hr hb hx I4 r rz q3
end
section
variable {K : PySem.W.Frag} {σ : L2.St} {F H : Hp} {Q : VK} {C : Addr} {sp : Sp} {dvs : List V} {E : XK} {ta : TE} {t tk : TA} {m : Str} {gV : List V → List V → List V}
theorem rd_smethD (h : ta σ H fun x H1 => x = .ref C ∧ t σ H1 fun vs H2 => sp (vs ++ dvs) H2 Q E) : tSMethD C sp dvs E ta t σ H Q := h
theorem rd_smethPK (h : ta σ H fun x H1 => x = .ref C ∧ t σ H1 fun vs H2 => tk σ H2 fun zs H3 => sp (gV vs zs) H3 Q E) : tSMethPK C sp gV E ta t tk σ H Q := h
def SMIK (C : Addr) (m : Str) (sp : Sp) (gV : List V → List V → List V) (E : XK) (t tk : TA) (σ : L2.St) (x : V) (H1 : Hp) (Q : VK) : Prop := ∃ a dx fs, x = .ref a ∧ H1 a = some (.ins C dx fs) ∧ fs.lookup m = none ∧ t σ H1 fun vs H2 => tk σ H2 fun zs H3 => sp (gV vs zs) H3 Q E
theorem rd_smethI (h : ta σ H fun x H1 => SMIK C m sp gV E t tk σ x H1 Q) : tSMethI C m sp gV E ta t tk σ H Q := h
theorem rd_smik {a dx : Addr} {fs : List (Str × V)} (e : H a = some (.ins C dx fs)) (l : fs.lookup m = none) (q : t σ H fun vs H2 => tk σ H2 fun zs H3 => sp (gV vs zs) H3 Q E) : SMIK C m sp gV E t tk σ (.ref a) H Q := ⟨a, dx, fs, rfl, e, l, q⟩
/-- y in d -/
def DInK (x y : V) (H : Hp) (Q : VK) : Prop := ∃ a o, x = .ref a ∧ DGet H a y o ∧ Q (.bl o.isSome) H
theorem rd_din {ty td : TE} (h : ty σ H fun y H1 => td σ H1 fun x H2 => DInK x y H2 Q) : tDIn ty td σ H Q := h
theorem rd_dinK {a : Addr} {kvs : List (Key × V)} {z : Str} (e : H a = some (.dK kvs)) (q : Q (.bl (valV kvs (.inr z)).isSome) H) : DInK (.ref a) (.str z) H Q := ⟨a, _, rfl, DGet.k (k := .inr z) e, q⟩
theorem rd_wOnly {cls c : Value} {d : Option Addr} {ts : Addr → Value → Option Addr → TS} {Wout : WX} {De : Ends} (e : PySem.W.exmOne K cls c = some true) (h : ∀ a, H a = none → ts a cls d De σ H) : wOnly K c ts Wout De cls d σ H := ⟨true, e, fun _ => h, fun q => Bool.noConfusion q⟩
end
/-- a comprehension, turn by turn, with any writing: R tells of the turn, the frozen part, the heap and what is made so far -/
theorem lcX {K : PySem.W.Frag} {σ : L2.St} {F H : Hp} {g : TG} {tt : TT} {te : TE} {vs : List Nat} {Q : VK} {J : It} {n : Nat} {X : Nat → V → Prop} (R : Nat → Hp → Hp → List V → Prop) (hz : n ≤ 100000)
    (hst : ∀ i F' H' acc, R i F' H' acc → i = n → J.stop n H') (hgo : ∀ i F' H' acc, R i F' H' acc → i < n → J.go i H') (hy : ∀ i F' H1 acc x H2, i < n → R i F' H1 acc → J.yld i H1 x H2 → H2 = H1 ∧ X i x)
    (r0 : R 0 F H []) (rup : ∀ i F' H' acc D o, R i F' H' acc → H D = none → R i F' (upd H' D o) acc) (al : ∀ i F' H' acc, R i F' H' acc → acc.length ≤ i)
    (turn : ∀ i x F1 H1 acc D, i < n → X i x → R i F1 H1 acc → H D = none → H1 D = some (.lst acc) → ∀ (Done : Hp → Prop) (Kept : VK), (∀ F2 H2, R (i + 1) F2 H2 acc → H2 D = some (.lst acc) → Done H2) →
      (∀ F2 H2 y, R (i + 1) F2 H2 (acc ++ [y]) → H2 D = some (.lst acc) → Kept y H2) →
      g x (wipe σ vs) H1 fun σ2 H2 => wipe σ2 vs = wipe σ vs ∧ tt σ2 H2 fun b H3 => if b = true then te σ2 H3 Kept else Done H3)
    (q : ∀ F' H' D acc, R n F' H' acc → H D = none → H' D = some (.lst acc) → Q (.ref D) H') : LcK J g tt te vs σ H Q := by
  intro D hD
  refine ⟨fun i m H' => m = n - i ∧ i ≤ n ∧ ∃ F' acc, R i F' H' acc ∧ H' D = some (.lst acc), ⟨n, by simp, Nat.zero_le _, F, [], rup _ _ _ _ _ _ r0 hD, upd_same⟩, ?_⟩
  rintro i m H1 ⟨rfl, hi, F1, acc, r1, d1⟩
  by_cases hlt : i < n
  · refine .inr ⟨hgo i F1 H1 acc r1 hlt, fun H' => i + 1 ≤ n ∧ ∃ F' acc, R (i + 1) F' H' acc ∧ H' D = some (.lst acc), fun H' p' => ⟨n - (i + 1), by omega, rfl, p'⟩, fun x H2 y => ?_⟩
    obtain ⟨rfl, hx⟩ := hy i F1 H1 acc x H2 hlt r1 y
    refine turn i x F1 H2 acc D hlt hx r1 hD d1 _ _ (fun F3 H3 r3 d3 => ⟨hlt, F3, acc, r3, d3⟩) (fun F3 H3 y r3 d3 => ?_)
    refine ⟨acc, d3, ?_, hlt, F3, acc ++ [y], rup _ _ _ _ _ _ r3 hD, upd_same⟩
    have := al _ _ _ _ r1
    rw [sizeLine_eq]
    omega
  · have e : i = n := by omega
    subst e
    exact .inl ⟨hst i F1 H1 acc r1 rfl, q F1 H1 D acc r1 hD d1⟩
end Hk

/-! Libraries, plainly: words, makers, the draft that takes lines. -/
namespace Lb
open PySem L2 Hk
abbrev Wd := List Nat
abbrev lets : List Nat := smalls
abbrev caps : List Nat := capitals
def binS : List Wd := [[43], [45], [42], [47, 47], [38], [124], [94], [60, 60], [62, 62]]
def unS : List Wd := [[110, 101, 103], [112, 111, 115], [97, 98, 115], [105, 110, 118, 101, 114, 116]]
def wBy : Wd := [98, 121]
def wChanges : Wd := [99, 104, 97, 110, 103, 101, 115]
def wOf : Wd := [111, 102]
def wBare : Wd := [98, 97, 114, 101]
def wHook : Wd := [104, 111, 111, 107]
def wLibrary : Wd := [108, 105, 98, 114, 97, 114, 121]
def wNeeds : Wd := [110, 101, 101, 100, 115]
def wKeeps : Wd := [107, 101, 101, 112, 115]
def wMake : Wd := [109, 97, 107, 101]
/-- by, changes, name, of, to, world -/
def barred : List Wd := [wBy, wChanges, [110, 97, 109, 101], wOf, [116, 111], [119, 111, 114, 108, 100]]
/-- named, call, names, renew, copy -/
def hooks : List Wd := [[110, 97, 109, 101, 100], [99, 97, 108, 108], [110, 97, 109, 101, 115], [114, 101, 110, 101, 119], [99, 111, 112, 121]]
def isWordB (w : Wd) : Bool := decide (1 ≤ w.length ∧ w.length ≤ 8) && w.all fun c => decide (c ∈ lets)
def isClassB (w : Wd) : Bool := decide (1 ≤ w.length ∧ w.length ≤ 8) && (decide (w.headD 0 ∈ caps) && (w.drop 1).all fun c => decide (c ∈ lets))
def isFieldB (w : Wd) : Bool := isWordB w && !decide (w ∈ barred)
def arityN (s : Wd) : Nat := if s ∈ binS then 2 else if s ∈ unS then 1 else 0
def own (w : Wd) : Wd := w ++ [32, 111, 119, 110]
def other (w : Wd) : Wd := w ++ [32, 111, 116, 104, 101, 114]
def deeper (w : Wd) : Wd := w ++ [32, 100, 101, 101, 112, 101, 114]
def common (w : Wd) : Wd := w ++ [32, 99, 111, 109, 109, 111, 110]
def wNamed : Wd := [110, 97, 109, 101, 100]
def wCall : Wd := [99, 97, 108, 108]
def wNames : Wd := [110, 97, 109, 101, 115]
def wRenew : Wd := [114, 101, 110, 101, 119]
def wCopy : Wd := [99, 111, 112, 121]
def mk0 : List Wd := [wNamed, own wCall, own wNames, own wBare]
def mk1 : List Wd := [wNamed, own wCall, own wNames, own wRenew, own wCopy, own wBare, wHook]
def mk2 : List Wd := [wNamed, own wCall, other wCall, deeper wCall, common wCall, own wNames, other wNames, deeper wNames, common wNames, own wRenew, other wRenew, deeper wRenew, own wCopy, other wCopy, deeper wCopy, own wBare, wHook]
def mkAll (n : Nat) : List Wd := if n = 0 then mk0 else if n = 1 then mk1 else mk2
def mkFor (n : Nat) (hook : Bool) : List Wd := (mkAll n).filter fun m => hook || !decide (m = wHook)
/-- words joined by single spaces -/
def spaced (ws : List Wd) : Wd := TL.joinL [32] ws
structure Row3 where
  sign : Wd
  changed : List Wd
  maker : Wd
  deriving DecidableEq
structure Draft where
  name : Wd
  parts : List Wd
  keeping : List (Wd × Wd)
  hook : Option Wd
  rows : List Row3
  deriving DecidableEq
def Draft.empty : Draft := ⟨[], [], [], none, []⟩
def Draft.knows (d : Draft) (w : Wd) : Bool := decide (w ∈ d.parts) || decide (w ∈ d.keeping.map (·.1))
def Draft.isNew (d : Draft) (w : Wd) : Bool := isFieldB w && (!decide (w ∈ d.parts) && !decide (w ∈ d.keeping.map (·.1)))
def Draft.takesName (d : Draft) (ws : List Wd) : Option Draft :=
  if ws.length ≠ 2 ∨ ws.getD 0 [] ≠ wLibrary ∨ isClassB (ws.getD 1 []) = false then none else some { d with name := ws.getD 1 [] }
def Draft.takesNeeds (d : Draft) (ws : List Wd) : Option Draft :=
  if d.keeping ≠ [] ∨ d.hook ≠ none ∨ d.rows ≠ [] then none else
  if ws.length ≠ 2 ∨ d.isNew (ws.getD 1 []) = false ∨ d.parts.length = 3 then none else some { d with parts := d.parts ++ [ws.getD 1 []] }
def Draft.takesKeeps (d : Draft) (ws : List Wd) : Option Draft :=
  if d.hook ≠ none ∨ d.rows ≠ [] ∨ d.keeping.length = 2 then none else
  if ws.length ≠ 4 ∨ ws.getD 2 [] ≠ wOf ∨ d.isNew (ws.getD 1 []) = false then none else
  if ws.getD 3 [] ∉ d.parts ∧ ws.getD 3 [] ∉ d.keeping.map (·.1) then none else some { d with keeping := d.keeping ++ [(ws.getD 1 [], ws.getD 3 [])] }
def Draft.takesHook (d : Draft) (ws : List Wd) : Option Draft :=
  if d.hook ≠ none ∨ d.rows ≠ [] ∨ ws.length ≠ 2 then none else
  if ws.getD 1 [] ∉ hooks ∧ ws.getD 1 [] ≠ wBare then none else some { d with hook := some (ws.getD 1 []) }
def Draft.takesRow (d : Draft) (s : Wd) (ch : List Wd) (m : Wd) : Option Draft :=
  if s ∈ d.rows.map (·.sign) ∨ d.rows.length = 6 then none else
  if m ∉ mkFor (arityN s) d.hook.isSome then none else some { d with rows := d.rows ++ [⟨s, ch, m⟩] }
def Draft.takesRequest (d : Draft) (ws : List Wd) : Option Draft :=
  if ws.length < 4 ∨ ws.getD 2 [] ≠ wBy ∨ isWordB (ws.getD 1 []) = false ∨ ws.getD 1 [] ∈ unS then none else
  d.takesRow (ws.getD 1 []) d.parts (spaced (ws.drop 3))
def Draft.takesOperation (d : Draft) (ws : List Wd) : Option Draft :=
  if (ws.getD 0 [] ∉ binS ∧ ws.getD 0 [] ∉ unS) ∨ wBy ∉ ws then none else
  if ws.idxOf wBy = 1 then d.takesRow (ws.getD 0 []) [] (spaced (ws.drop 2)) else
  if ws.getD 1 [] ≠ wChanges ∨ (ws.take (ws.idxOf wBy)).drop 2 = [] ∨ (ws.take (ws.idxOf wBy)).drop 2 ≠ d.parts.filter (fun p => decide (p ∈ (ws.take (ws.idxOf wBy)).drop 2)) then none else
  d.takesRow (ws.getD 0 []) ((ws.take (ws.idxOf wBy)).drop 2) (spaced (ws.drop (ws.idxOf wBy + 1)))
def Draft.takes (d : Draft) (ws : List Wd) : Option Draft :=
  if d.name = [] then d.takesName ws else
  if ws.getD 0 [] = wNeeds then d.takesNeeds ws else
  if d.parts = [] then none else
  if ws.getD 0 [] = wKeeps then d.takesKeeps ws else
  if ws.getD 0 [] = wHook then d.takesHook ws else
  if ws.getD 0 [] = wMake then d.takesRequest ws else d.takesOperation ws
/-- the lines of a library's text -/
def Row3.line (r : Row3) : Wd := if arityN r.sign = 0 then wMake ++ [32] ++ r.sign ++ [32] ++ wBy ++ [32] ++ r.maker else
  if r.changed = [] then r.sign ++ [32] ++ wBy ++ [32] ++ r.maker else r.sign ++ [32] ++ wChanges ++ [32] ++ spaced r.changed ++ [32] ++ wBy ++ [32] ++ r.maker
def Draft.lines (d : Draft) : List Wd := [wLibrary ++ [32] ++ d.name] ++ d.parts.map (fun p => wNeeds ++ [32] ++ p) ++ d.keeping.map (fun p => wKeeps ++ [32] ++ p.1 ++ [32] ++ wOf ++ [32] ++ p.2) ++
  (match d.hook with | none => [] | some h => [wHook ++ [32] ++ h]) ++ d.rows.map Row3.line
end Lb

/-! What every draft keeps: short words, few lines. -/
namespace Lb
open PySem L2 Hk
def OkW (n : Nat) (w : Wd) : Prop := okT w ∧ w.length ≤ n
theorem OkW.mono {n m : Nat} {w : Wd} (h : OkW n w) (e : n ≤ m) : OkW m w := ⟨h.1, Nat.le_trans h.2 e⟩
structure Row3.Wf (r : Row3) : Prop where
  s : OkW 8 r.sign
  l : r.changed.length ≤ 3
  c : ∀ w ∈ r.changed, OkW 8 w
  m : OkW 20 r.maker
structure Draft.Wf (d : Draft) : Prop where
  nm : OkW 8 d.name
  pl : d.parts.length ≤ 3
  pw : ∀ w ∈ d.parts, OkW 8 w
  kl : d.keeping.length ≤ 2
  kw : ∀ q ∈ d.keeping, OkW 8 q.1 ∧ OkW 8 q.2
  hk : ∀ h, d.hook = some h → OkW 8 h
  rl : d.rows.length ≤ 6
  rw : ∀ r ∈ d.rows, r.Wf
  rn : (d.rows.map (·.sign)).Nodup
theorem okT_nil : okT [] := fun _ h => by cases h
theorem Draft.empty_wf : Draft.empty.Wf := by
  refine ⟨⟨okT_nil, by decide⟩, by decide, ?_, by decide, ?_, ?_, by decide, ?_, .nil⟩
  · intro w h; cases h
  · intro w h; cases h
  · intro w h; cases h
  · intro w h; cases h
/-- the words of a line -/
structure WsOk (ws : List Wd) : Prop where
  ne : ws ≠ []
  ok : ∀ w ∈ ws, okT w
  len : (ws.map (·.length)).sum + ws.length ≤ 10000
theorem getD_okT {ws : List Wd} (h : ∀ w ∈ ws, okT w) (i : Nat) : okT (ws.getD i []) := by
  rw [List.getD_eq_getElem?_getD]
  cases e : ws[i]? with
  | none => exact okT_nil
  | some w => exact h w (List.mem_of_getElem? e)
theorem sum_mem {ws : List Wd} {w : Wd} (h : w ∈ ws) : w.length ≤ (ws.map (·.length)).sum := by
  induction ws with
  | nil => cases h
  | cons x xs ih =>
    rw [List.map_cons, List.sum_cons]
    rcases List.mem_cons.mp h with rfl | h
    · omega
    · have := ih h; omega
theorem WsOk.getL {ws : List Wd} (h : WsOk ws) (i : Nat) : (ws.getD i []).length ≤ 10000 := by
  rw [List.getD_eq_getElem?_getD]
  cases e : ws[i]? with
  | none => exact Nat.zero_le _
  | some w =>
    have := sum_mem (List.mem_of_getElem? e)
    have := h.len
    show w.length ≤ 10000
    omega
theorem sum_drop (ws : List Wd) (i : Nat) : ((ws.drop i).map (·.length)).sum + (ws.drop i).length ≤ (ws.map (·.length)).sum + ws.length := by
  induction ws generalizing i with
  | nil => simp
  | cons x xs ih =>
    cases i with
    | zero => simp
    | succ i =>
      have := ih i
      rw [List.drop_succ_cons, List.map_cons, List.sum_cons, List.length_cons]
      omega
theorem isWordB_len {w : Wd} (h : isWordB w = true) : w.length ≤ 8 := by
  unfold isWordB at h
  rw [Bool.and_eq_true, decide_eq_true_iff] at h
  exact h.1.2
theorem isWordB_ok {w : Wd} (h : isWordB w = true) : okT w := by
  unfold isWordB at h
  rw [Bool.and_eq_true, List.all_eq_true] at h
  intro c hc
  have := of_decide_eq_true (h.2 c hc)
  exact (by decide : ∀ c ∈ lets, c < 128) c this
theorem isFieldB_word {w : Wd} (h : isFieldB w = true) : isWordB w = true := by
  unfold isFieldB at h
  rw [Bool.and_eq_true] at h
  exact h.1
theorem isNew_word {d : Draft} {w : Wd} (h : d.isNew w = true) : isWordB w = true := by
  unfold Draft.isNew at h
  rw [Bool.and_eq_true] at h
  exact isFieldB_word h.1
theorem isClassB_len {w : Wd} (h : isClassB w = true) : w.length ≤ 8 := by
  unfold isClassB at h
  rw [Bool.and_eq_true, decide_eq_true_iff] at h
  exact h.1.2
theorem takesName_wf {d d' : Draft} {ws : List Wd} (h : d.Wf) (hw : ∀ w ∈ ws, okT w) (e : d.takesName ws = some d') : d'.Wf := by
  unfold Draft.takesName at e
  split at e
  · cases e
  · rename_i c
    cases e
    have c1 : isClassB (ws.getD 1 []) = true := by
      cases q : isClassB (ws.getD 1 []) with
      | true => rfl
      | false => exact absurd (.inr (.inr q)) c
    exact { h with nm := ⟨getD_okT hw 1, isClassB_len c1⟩ }
theorem takesNeeds_wf {d d' : Draft} {ws : List Wd} (h : d.Wf) (hw : ∀ w ∈ ws, okT w) (e : d.takesNeeds ws = some d') : d'.Wf := by
  unfold Draft.takesNeeds at e
  split at e
  · cases e
  · split at e
    · cases e
    · rename_i c
      cases e
      have c1 : d.isNew (ws.getD 1 []) = true := by
        cases q : d.isNew (ws.getD 1 []) with
        | true => rfl
        | false => exact absurd (.inr (.inl q)) c
      have c2 : d.parts.length ≠ 3 := fun q => c (.inr (.inr q))
      have := h.pl
      refine { h with pl := ?_, pw := fun w hm => ?_ }
      · show (d.parts ++ [ws.getD 1 []]).length ≤ 3
        rw [List.length_append]
        simp
        omega
      · rcases List.mem_append.mp hm with hm | hm
        · exact h.pw w hm
        · rw [List.mem_singleton.mp hm]
          exact ⟨getD_okT hw 1, isWordB_len (isNew_word c1)⟩
theorem takesKeeps_wf {d d' : Draft} {ws : List Wd} (h : d.Wf) (hw : ∀ w ∈ ws, okT w) (e : d.takesKeeps ws = some d') : d'.Wf := by
  unfold Draft.takesKeeps at e
  split at e
  · cases e
  · rename_i c0
    split at e
    · cases e
    · rename_i c
      split at e
      · cases e
      · rename_i c3
        cases e
        have c1 : d.isNew (ws.getD 1 []) = true := by
          cases q : d.isNew (ws.getD 1 []) with
          | true => rfl
          | false => exact absurd (.inr (.inr q)) c
        have c2 : d.keeping.length ≠ 2 := fun q => c0 (.inr (.inr q))
        have := h.kl
        refine { h with kl := ?_, kw := fun q hm => ?_ }
        · show (d.keeping ++ [(ws.getD 1 [], ws.getD 3 [])]).length ≤ 2
          rw [List.length_append]
          simp
          omega
        · rcases List.mem_append.mp hm with hm | hm
          · exact h.kw q hm
          · rw [List.mem_singleton.mp hm]
            refine ⟨⟨getD_okT hw 1, isWordB_len (isNew_word c1)⟩, ?_⟩
            by_cases z : ws.getD 3 [] ∈ d.parts
            · exact h.pw _ z
            · have z2 : ws.getD 3 [] ∈ d.keeping.map (·.1) := Decidable.not_not.mp fun z2 => c3 ⟨z, z2⟩
              obtain ⟨q, hq, e⟩ := List.mem_map.mp z2
              show OkW 8 (ws.getD 3 [])
              rw [← e]
              exact (h.kw q hq).1
theorem takesHook_wf {d d' : Draft} {ws : List Wd} (h : d.Wf) (e : d.takesHook ws = some d') : d'.Wf := by
  unfold Draft.takesHook at e
  split at e
  · cases e
  · split at e
    · cases e
    · rename_i c
      cases e
      refine { h with hk := fun x hx => ?_ }
      cases hx
      by_cases z : ws.getD 1 [] ∈ hooks
      · exact (by unfold OkW okT; decide : ∀ w ∈ hooks, OkW 8 w) _ z
      · have z2 : ws.getD 1 [] = wBare := Decidable.not_not.mp fun z2 => c ⟨z, z2⟩
        rw [z2]
        exact (by unfold OkW okT; decide : OkW 8 wBare)
theorem mkAll_ok {n : Nat} {m : Wd} (h : m ∈ mkAll n) : OkW 20 m := by
  unfold mkAll at h
  split at h
  · exact (by unfold OkW okT; decide : ∀ w ∈ mk0, OkW 20 w) _ h
  · split at h
    · exact (by unfold OkW okT; decide : ∀ w ∈ mk1, OkW 20 w) _ h
    · exact (by unfold OkW okT; decide : ∀ w ∈ mk2, OkW 20 w) _ h
theorem takesRow_wf {d d' : Draft} {s m : Wd} {ch : List Wd} (h : d.Wf) (hs : OkW 8 s) (hl : ch.length ≤ 3) (hc : ∀ w ∈ ch, OkW 8 w) (e : d.takesRow s ch m = some d') : d'.Wf := by
  unfold Draft.takesRow at e
  split at e
  · cases e
  · rename_i c0
    split at e
    · cases e
    · rename_i c
      cases e
      have c1 : m ∈ mkFor (arityN s) d.hook.isSome := Decidable.not_not.mp c
      have c2 : d.rows.length ≠ 6 := fun q => c0 (.inr q)
      have c3 : s ∉ d.rows.map (·.sign) := fun q => c0 (.inl q)
      have hm : OkW 20 m := mkAll_ok (List.mem_filter.mp c1).1
      have := h.rl
      refine { h with rl := ?_, rw := fun q hq => ?_, rn := ?_ }
      · show (d.rows ++ [_]).length ≤ 6
        rw [List.length_append]
        simp
        omega
      · rcases List.mem_append.mp hq with hq | hq
        · exact h.rw q hq
        · rw [List.mem_singleton.mp hq]
          exact ⟨hs, hl, hc, hm⟩
      · show ((d.rows ++ [(⟨s, ch, m⟩ : Row3)]).map (·.sign)).Nodup
        rw [List.map_append]
        refine List.nodup_append.mpr ⟨h.rn, by simp, fun x hx y hy => ?_⟩
        have : y = s := by simpa using hy
        subst this
        exact fun z => c3 (z ▸ hx)
theorem takesRequest_wf {d d' : Draft} {ws : List Wd} (h : d.Wf) (hw : ∀ w ∈ ws, okT w) (e : d.takesRequest ws = some d') : d'.Wf := by
  unfold Draft.takesRequest at e
  split at e
  · cases e
  · rename_i c
    have c1 : isWordB (ws.getD 1 []) = true := by
      cases q : isWordB (ws.getD 1 []) with
      | true => rfl
      | false => exact absurd (.inr (.inr (.inl q))) c
    exact takesRow_wf h ⟨getD_okT hw 1, isWordB_len c1⟩ h.pl h.pw e
theorem signs_ok : ∀ w ∈ binS ++ unS, OkW 8 w := by unfold OkW okT; decide
theorem takesOperation_wf {d d' : Draft} {ws : List Wd} (h : d.Wf) (e : d.takesOperation ws = some d') : d'.Wf := by
  unfold Draft.takesOperation at e
  split at e
  · cases e
  · rename_i c
    have c1 : OkW 8 (ws.getD 0 []) := by
      refine signs_ok _ ?_
      by_cases z : ws.getD 0 [] ∈ binS
      · exact List.mem_append_left _ z
      · exact List.mem_append_right _ (Decidable.not_not.mp fun z2 => c (.inl ⟨z, z2⟩))
    split at e
    · exact takesRow_wf h c1 (Nat.zero_le _) (fun w hw => by cases hw) e
    · split at e
      · cases e
      · rename_i c3
        have c4 : (ws.take (ws.idxOf wBy)).drop 2 = d.parts.filter (fun p => decide (p ∈ (ws.take (ws.idxOf wBy)).drop 2)) := Decidable.not_not.mp fun z => c3 (.inr (.inr z))
        refine takesRow_wf h c1 ?_ (fun w hw => ?_) e
        · rw [c4]
          exact Nat.le_trans (List.length_filter_le _ _) h.pl
        · rw [c4] at hw
          exact h.pw w (List.mem_filter.mp hw).1
theorem takes_wf {d d' : Draft} {ws : List Wd} (h : d.Wf) (hw : ∀ w ∈ ws, okT w) (e : d.takes ws = some d') : d'.Wf := by
  unfold Draft.takes at e
  split at e
  · exact takesName_wf h hw e
  · split at e
    · exact takesNeeds_wf h hw e
    · split at e
      · cases e
      · split at e
        · exact takesKeeps_wf h hw e
        · split at e
          · exact takesHook_wf h e
          · split at e
            · exact takesRequest_wf h hw e
            · exact takesOperation_wf h e
theorem getD_wf {f : Draft → List Wd → Option Draft} {d : Draft} {ws : List Wd} (h : d.Wf) (k : ∀ d', f d ws = some d' → d'.Wf) : ((f d ws).getD d).Wf := by
  cases e : f d ws with
  | none => exact h
  | some d' => exact k d' e
end Lb

/-! The laws' drawn names, plainly. -/
namespace Lb
open PySem L2 Hk
def wordOf (ahead : Bool) (stem : Wd) (c : Nat) : Wd :=
  if (if ahead then c :: stem else stem ++ [c]) ∈ barred then (if ahead then c :: stem else stem ++ [c]) ++ [120] else (if ahead then c :: stem else stem ++ [c])
theorem barred_x : ∀ w ∈ barred, isFieldB (w ++ [120]) = true := by decide +kernel
theorem wordOf_field {ahead : Bool} {stem : Wd} {c : Nat} (hc : c ∈ lets) (hs : ∀ x ∈ stem, x ∈ lets) (hl : stem.length ≤ 7) : isFieldB (wordOf ahead stem c) = true := by
  unfold wordOf
  generalize hw : (if ahead then c :: stem else stem ++ [c]) = w
  have h1 : w.length = stem.length + 1 := by subst hw; cases ahead <;> simp
  have h2 : ∀ x ∈ w, x ∈ lets := by
    intro x hx
    subst hw
    cases ahead
    · rcases List.mem_append.mp hx with hx | hx
      · exact hs x hx
      · rw [List.mem_singleton.mp hx]; exact hc
    · rcases List.mem_cons.mp hx with rfl | hx
      · exact hc
      · exact hs x hx
  split
  · rename_i h
    exact barred_x w h
  · rename_i h
    unfold isFieldB isWordB
    rw [decide_eq_true (by omega), decide_eq_false h, List.all_eq_true.mpr (fun x hx => decide_eq_true (h2 x hx))]
    rfl
theorem wordOf_inj {ahead : Bool} {stem : Wd} {c d : Nat} (h : wordOf ahead stem c = wordOf ahead stem d) : c = d := by
  unfold wordOf at h
  have l1 : (if ahead then c :: stem else stem ++ [c]).length = stem.length + 1 := by cases ahead <;> simp
  have l2 : (if ahead then d :: stem else stem ++ [d]).length = stem.length + 1 := by cases ahead <;> simp
  have key : (if ahead then c :: stem else stem ++ [c]) = (if ahead then d :: stem else stem ++ [d]) → c = d := by
    intro e
    cases ahead
    · have : stem ++ [c] = stem ++ [d] := e
      simpa using this
    · have : c :: stem = d :: stem := e
      simpa using this
  generalize (if ahead then c :: stem else stem ++ [c]) = w1 at h l1 key
  generalize (if ahead then d :: stem else stem ++ [d]) = w2 at h l2 key
  split at h <;> split at h
  · exact key (List.append_cancel_right h)
  · have := congrArg List.length h
    simp only [List.length_append, l1, l2, List.length_singleton] at this
    omega
  · have := congrArg List.length h
    simp only [List.length_append, l1, l2, List.length_singleton] at this
    omega
  · exact key h
def titleOf (ahead : Bool) (stem : Wd) (c : Nat) : Wd := if ahead then c :: stem else 81 :: (stem ++ [c + 32])
theorem caps_low : ∀ c ∈ caps, c + 32 ∈ lets := by decide
theorem titleOf_class {ahead : Bool} {stem : Wd} {c : Nat} (hc : c ∈ caps) (hs : ∀ x ∈ stem, x ∈ lets) (hl : stem.length ≤ 6) : isClassB (titleOf ahead stem c) = true := by
  unfold titleOf isClassB
  cases ahead
  · simp only [Bool.false_eq_true, if_false]
    have h1 : (81 :: (stem ++ [c + 32])).length = stem.length + 2 := by simp
    have h2 : ((81 :: (stem ++ [c + 32])).drop 1).all (fun c => decide (c ∈ lets)) = true := by
      rw [List.all_eq_true]
      intro x hx
      refine decide_eq_true ?_
      have hx : x ∈ stem ++ [c + 32] := hx
      rcases List.mem_append.mp hx with hx | hx
      · exact hs x hx
      · rw [List.mem_singleton.mp hx]; exact caps_low c hc
    rw [decide_eq_true (by omega), h2]
    rfl
  · simp only [if_true]
    have h2 : ((c :: stem).drop 1).all (fun c => decide (c ∈ lets)) = true := by
      rw [List.all_eq_true]
      intro x hx
      exact decide_eq_true (hs x hx)
    rw [decide_eq_true (by simp; omega), h2]
    show (true && (decide (c ∈ caps) && true)) = true
    rw [decide_eq_true hc]
    rfl
theorem titleOf_inj {ahead : Bool} {stem : Wd} {c d : Nat} (h : titleOf ahead stem c = titleOf ahead stem d) : c = d := by
  unfold titleOf at h
  cases ahead
  · simp at h; exact h
  · simp at h; exact h
/-- some of the letters are taken -/
structure Taken (all us left : List Nat) : Prop where
  un : us.Nodup
  ln : left.Nodup
  dis : ∀ c ∈ us, c ∉ left
  ua : ∀ c ∈ us, c ∈ all
  la : ∀ c ∈ left, c ∈ all
  len : us.length + left.length = all.length
theorem Taken.start {all : List Nat} (h : all.Nodup) : Taken all [] all := ⟨.nil, h, (fun c hc => by cases hc), (fun c hc => by cases hc), (fun c hc => hc), (by simp)⟩
theorem Taken.pop {all us left : List Nat} {k c : Nat} (h : Taken all us left) (hk : left[k]? = some c) : Taken all (us ++ [c]) (left.eraseIdx k) := by
  obtain ⟨i1, i2⟩ := List.getElem?_eq_some_iff.mp hk
  have hc : c ∈ left := List.mem_of_getElem? hk
  have e : left = left.take k ++ c :: left.drop (k + 1) := by
    conv => lhs; rw [← List.take_append_drop k left]
    rw [List.drop_eq_getElem_cons i1, i2]
  have e2 : left.eraseIdx k = left.take k ++ left.drop (k + 1) := List.eraseIdx_eq_take_drop_succ ..
  have hn := h.ln
  rw [e] at hn
  obtain ⟨n1, n2, n3⟩ := List.nodup_append.mp hn
  obtain ⟨n4, n5⟩ := List.nodup_cons.mp n2
  have hsub : ∀ x ∈ left.eraseIdx k, x ∈ left := fun x hx => List.mem_of_mem_eraseIdx hx
  refine ⟨?_, ?_, fun x hx => ?_, fun x hx => ?_, fun x hx => h.la x (hsub x hx), ?_⟩
  · refine List.nodup_append.mpr ⟨h.un, by simp, fun x hx y hy => ?_⟩
    rw [List.mem_singleton.mp hy]
    exact fun z => h.dis x hx (z ▸ hc)
  · rw [e2]
    refine List.nodup_append.mpr ⟨n1, n5, fun x hx y hy => n3 x hx y (List.mem_cons_of_mem _ hy)⟩
  · rcases List.mem_append.mp hx with hx | hx
    · exact fun z => h.dis x hx (hsub x z)
    · rw [List.mem_singleton.mp hx, e2]
      intro z
      rcases List.mem_append.mp z with z | z
      · exact n3 c z c (List.mem_cons_self ..) rfl
      · exact n4 z
  · rcases List.mem_append.mp hx with hx | hx
    · exact h.ua x hx
    · rw [List.mem_singleton.mp hx]; exact h.la c hc
  · have := h.len
    rw [List.length_append, List.length_singleton, List.length_eraseIdx_of_lt i1]
    omega
theorem nodup_mapI {α β : Type} {f : α → β} (hf : ∀ {x y}, f x = f y → x = y) : ∀ {xs : List α}, xs.Nodup → (xs.map f).Nodup
  | [], _ => .nil
  | x :: xs, h => by
    obtain ⟨h1, h2⟩ := List.nodup_cons.mp h
    rw [List.map_cons]
    refine List.nodup_cons.mpr ⟨fun z => ?_, nodup_mapI hf h2⟩
    obtain ⟨y, hy, e⟩ := List.mem_map.mp z
    exact h1 (hf e ▸ hy)
theorem lets_nodup : lets.Nodup := by decide
theorem caps_nodup : caps.Nodup := by decide
end Lb

/-! Whole libraries, plainly: their lines are taken, one after another. -/
namespace Lb
open PySem L2 Hk
/-- a sign with its changed parameters, right in a library with these parameters -/
def SignOk (parts : List Wd) (s : Wd) (ch : List Wd) : Prop :=
  ((s ∈ binS ∨ s ∈ unS) ∧ ch = parts.filter fun p => decide (p ∈ ch)) ∨ (isWordB s = true ∧ s ∉ unS ∧ s ∉ binS ∧ ch = parts)
structure Draft.Lib (d : Draft) : Prop where
  nm : isClassB d.name = true
  p0 : d.parts ≠ []
  pl : d.parts.length ≤ 3
  pf : ∀ p ∈ d.parts, isFieldB p = true
  pn : d.parts.Nodup
  kl : d.keeping.length ≤ 2
  kf : ∀ i q, d.keeping[i]? = some q → isFieldB q.1 = true ∧ q.1 ∉ d.parts ∧ q.1 ∉ (d.keeping.take i).map (·.1) ∧ (q.2 ∈ d.parts ∨ q.2 ∈ (d.keeping.take i).map (·.1))
  hk : ∀ h, d.hook = some h → h ∈ hooks ∨ h = wBare
  r0 : d.rows ≠ []
  rl : d.rows.length ≤ 6
  rn : (d.rows.map (·.sign)).Nodup
  rs : ∀ r ∈ d.rows, SignOk d.parts r.sign r.changed
  rm : ∀ r ∈ d.rows, r.maker ∈ mkFor (arityN r.sign) d.hook.isSome
def wordsL (l : Wd) : List Wd := TL.spl [32] 0 [] l
theorem wordsL_cons {p : Wd} (h : 32 ∉ p) (r : Wd) : wordsL (p ++ ([32] ++ r)) = p :: wordsL r := by
  have := TL.spl_part1 (s := 32) (S := []) (p := p) (rest := r) (acc := []) h
  rw [List.nil_append] at this
  exact this
theorem wordsL_one {p : Wd} (h : 32 ∉ p) : wordsL p = [p] := by
  have := TL.spl_last1 (s := 32) (S := []) (p := p) (acc := []) h
  rw [List.nil_append] at this
  exact this
theorem wordsL_join : ∀ {ws : List Wd}, ws ≠ [] → (∀ w ∈ ws, 32 ∉ w) → ∀ r, wordsL (TL.joinL [32] ws ++ ([32] ++ r)) = ws ++ wordsL r
  | [], h, _, _ => absurd rfl h
  | [w], _, hw, r => wordsL_cons (hw w (by simp)) r
  | w :: v :: ws, _, hw, r => by
    have ih := wordsL_join (ws := v :: ws) (by simp) (fun x hx => hw x (List.mem_cons_of_mem _ hx)) r
    show wordsL (w ++ ([32] ++ TL.joinL [32] (v :: ws)) ++ ([32] ++ r)) = w :: ((v :: ws) ++ wordsL r)
    rw [List.append_assoc, List.append_assoc, wordsL_cons (hw w (by simp)), ih]
theorem joinL_spl (l : Wd) : spaced (wordsL l) = l := by
  have h := StrLaws.join_split (tx l) (tx [32])
  have e : Txt.split (tx l) (tx [32]) = (TL.spl [32] 0 [] l).map tx := SX.split_S (a := l) (b := [32]) (by simp) (by simp)
  rw [e] at h
  have h2 := SX.join_S [32] (TL.spl [32] 0 [] l)
  have h3 : tx (TL.joinL [32] (TL.spl [32] 0 [] l)) = tx l := by
    refine Eq.trans ?_ h
    refine Eq.trans h2.symm ?_
    exact TL.join_eq _ _
  exact tx_inj.mp h3
theorem word_sp {w : Wd} (h : isWordB w = true) : 32 ∉ w ∧ 10 ∉ w := by
  have hm : ∀ c ∈ w, c ∈ lets := by
    unfold isWordB at h
    rw [Bool.and_eq_true, List.all_eq_true] at h
    exact fun c hc => of_decide_eq_true (h.2 c hc)
  exact ⟨fun z => absurd (hm 32 z) (by decide), fun z => absurd (hm 10 z) (by decide)⟩
theorem sign_sp : ∀ s ∈ binS ++ unS, 32 ∉ s ∧ 10 ∉ s ∧ s ≠ wNeeds ∧ s ≠ wKeeps ∧ s ≠ wHook ∧ s ≠ wMake ∧ s ≠ wBy ∧ arityN s ≠ 0 := by decide +kernel
theorem req_ar {s : Wd} (h1 : s ∉ unS) (h2 : s ∉ binS) : arityN s = 0 := by
  unfold arityN
  rw [if_neg h2, if_neg h1]
/-- the words of an operation's line, whatever stands for its maker -/
def rowWs (s : Wd) (ch : List Wd) : List Wd := if arityN s = 0 then [wMake, s, wBy] else if ch = [] then [s, wBy] else s :: wChanges :: (ch ++ [wBy])
theorem row_words {parts : List Wd} {s : Wd} {ch : List Wd} (m : Wd) (hp : ∀ p ∈ parts, isFieldB p = true) (h : SignOk parts s ch) : wordsL (Row3.line ⟨s, ch, m⟩) = rowWs s ch ++ wordsL m := by
  have hch : ∀ c ∈ ch, 32 ∉ c := by
    intro c hc
    rcases h with ⟨_, e⟩ | ⟨_, _, _, e⟩
    · rw [e] at hc
      exact (word_sp (isFieldB_word (hp c (List.mem_filter.mp hc).1))).1
    · rw [e] at hc
      exact (word_sp (isFieldB_word (hp c hc))).1
  have hs : 32 ∉ s := by
    rcases h with ⟨e, _⟩ | ⟨e, _⟩
    · exact (sign_sp s (List.mem_append.mpr e)).1
    · exact (word_sp e).1
  have l1 : 32 ∉ wMake := by decide
  have l2 : 32 ∉ wBy := by decide
  have l3 : 32 ∉ wChanges := by decide
  unfold Row3.line rowWs
  simp only
  split
  · rw [show wMake ++ [32] ++ s ++ [32] ++ wBy ++ [32] ++ m = wMake ++ ([32] ++ (s ++ ([32] ++ (wBy ++ ([32] ++ m))))) by simp, wordsL_cons l1, wordsL_cons hs, wordsL_cons l2]
    rfl
  · split
    · rw [show s ++ [32] ++ wBy ++ [32] ++ m = s ++ ([32] ++ (wBy ++ ([32] ++ m))) by simp, wordsL_cons hs, wordsL_cons l2]
      rfl
    · rename_i hc
      rw [show s ++ [32] ++ wChanges ++ [32] ++ spaced ch ++ [32] ++ wBy ++ [32] ++ m = s ++ ([32] ++ (wChanges ++ ([32] ++ (spaced ch ++ ([32] ++ (wBy ++ ([32] ++ m))))))) by simp, wordsL_cons hs, wordsL_cons l3]
      have := wordsL_join hc hch (wBy ++ ([32] ++ m))
      rw [show spaced ch ++ ([32] ++ (wBy ++ ([32] ++ m))) = TL.joinL [32] ch ++ ([32] ++ (wBy ++ ([32] ++ m))) from rfl, this, wordsL_cons l2]
      simp
theorem wordsL_len (m : Wd) : 1 ≤ (wordsL m).length := by
  cases h : wordsL m with
  | nil =>
    have : ∀ (l acc : Wd), TL.spl [32] 0 acc l ≠ [] := by
      intro l
      induction l with
      | nil => intro acc; rw [TL.spl_nil]; simp
      | cons x l ih =>
        intro acc
        show (if TL.pre [32] (x :: l) = true then acc :: TL.spl [32] 0 [] l else TL.spl [32] 0 (acc ++ [x]) l) ≠ []
        split
        · simp
        · exact ih _
    exact absurd h (this m [])
  | cons x xs => simp
theorem takes_row {d : Draft} {s : Wd} {ch : List Wd} (m : Wd) (hn : d.name ≠ []) (h0 : d.parts ≠ []) (hp : ∀ p ∈ d.parts, isFieldB p = true) (h : SignOk d.parts s ch) : d.takes (wordsL (Row3.line ⟨s, ch, m⟩)) = d.takesRow s ch m := by
  rw [row_words m hp h]
  have hj := joinL_spl m
  have hl := wordsL_len m
  unfold rowWs
  rcases h with ⟨hs, hc⟩ | ⟨h1, h2, h3, hc⟩
  · obtain ⟨q1, q2, q3, q4, q5, q6, q7, q8⟩ := sign_sp s (List.mem_append.mpr hs)
    rw [if_neg q8]
    have body : ∀ ws : List Wd, ws.getD 0 [] = s → d.takes ws = d.takesOperation ws := by
      intro ws e
      unfold Draft.takes
      rw [if_neg hn, e, if_neg q3, if_neg h0, if_neg q4, if_neg q5, if_neg q6]
    by_cases he : ch = []
    · subst he
      rw [if_pos rfl, body _ rfl]
      unfold Draft.takesOperation
      have hi : ([s, wBy] ++ wordsL m).idxOf wBy = 1 := by
        show (s :: wBy :: wordsL m).idxOf wBy = 1
        rw [List.idxOf_cons, List.idxOf_cons]
        have : (s == wBy) = false := by simpa using q7
        rw [this]
        simp
      rw [if_neg (by
        rintro (⟨y1, y2⟩ | y)
        · exact hs.elim y1 y2
        · exact y (by simp)), if_pos hi]
      show d.takesRow s [] (spaced (wordsL m)) = _
      rw [hj]
    · rw [if_neg he, body _ rfl]
      have hby : wBy ∉ ch := by
        intro z
        rw [hc] at z
        have := hp _ (List.mem_filter.mp z).1
        exact absurd this (by decide)
      have ew : s :: wChanges :: (ch ++ [wBy]) ++ wordsL m = s :: wChanges :: (ch ++ wBy :: wordsL m) := by simp
      rw [ew]
      have hi : (s :: wChanges :: (ch ++ wBy :: wordsL m)).idxOf wBy = ch.length + 2 := by
        rw [List.idxOf_cons, List.idxOf_cons, List.idxOf_append]
        have e1 : (s == wBy) = false := by simpa using q7
        have e2 : (wChanges == wBy) = false := by decide
        rw [e1, e2, if_neg hby, List.idxOf_cons]
        simp
      unfold Draft.takesOperation
      rw [if_neg (by
        rintro (⟨y1, y2⟩ | y)
        · exact hs.elim y1 y2
        · exact y (by simp)), hi, if_neg (by omega)]
      have ht2 : ((s :: wChanges :: (ch ++ wBy :: wordsL m)).take (ch.length + 2)).drop 2 = ch := by
        show ((ch ++ wBy :: wordsL m).take ch.length) = ch
        rw [List.take_left]
      have hd2 : (s :: wChanges :: (ch ++ wBy :: wordsL m)).drop (ch.length + 2 + 1) = wordsL m := by
        show (ch ++ wBy :: wordsL m).drop (ch.length + 1) = wordsL m
        rw [List.drop_append]
        simp
      rw [ht2, hd2, if_neg (by
        rintro (y | y | y)
        · exact y rfl
        · exact he y
        · exact y hc)]
      show d.takesRow s ch (spaced (wordsL m)) = _
      rw [hj]
  · rw [if_pos (req_ar h2 h3)]
    subst hc
    unfold Draft.takes
    rw [if_neg hn, show ([wMake, s, wBy] ++ wordsL m).getD 0 [] = wMake from rfl, if_neg (show ¬ wMake = wNeeds by decide), if_neg h0, if_neg (show ¬ wMake = wKeeps by decide), if_neg (show ¬ wMake = wHook by decide), if_pos rfl]
    unfold Draft.takesRequest
    rw [if_neg (by
      rintro (y | y | y | y)
      · simp at y; omega
      · exact y rfl
      · have : isWordB s = false := y
        rw [h1] at this
        cases this
      · exact h2 y)]
    show d.takesRow s d.parts (spaced (wordsL m)) = _
    rw [hj]
end Lb

/-! A method that may raise, called in a try; lists unpacked. -/
namespace Hk
open PySem PySem.Spec PyProof.Rows L2
theorem rd_gunlL {K : PySem.W.Frag} {a : Addr} {xs : List V} {m : Nat} {ts : TGs} {σ : L2.St} {H : Hp} {k : L2.St → Hp → Prop} (e : SqL K H a xs) (l : xs.length = m) (q : ts xs σ H k) : gUnl K m ts (.ref a) σ H k := ⟨a, xs, rfl, e, l, q⟩
section
variable {X : Cx} {CX : CXT} {k : Nat} {C f : Addr} {sp : Sp} {E : L2.St → XK} {o e : Expr} {es : List Expr} {m : Str} {pos apos : Pos} {ta : TE} {t : TA} {pl : Sem Bool} {fd : FuncData} {ps : List Str}
def tMethS (C : Addr) (m : Str) (sp : Sp) (E : L2.St → XK) (ta : TE) (t : TA) : TE := fun σ H Q => ta σ H fun x H1 => ∃ a dx fs, x = .ref a ∧ H1 a = some (.ins C dx fs) ∧ fs.lookup m = none ∧ t σ H1 fun vs H2 => sp (x :: vs) H2 Q (E σ)
theorem pe_methS (he : PE X o ta) (c : Cls X.K C) (hm : Meth X.K C m f) (F : FnOk X.prog X.w X.K X.mg X.base CX k f fd ps sp) (hr : Room k X.A) (hb : Binds X.K fd ps []) (hx : ∀ σ, PassesAt CX X σ (E σ)) (ha : PA X (e :: es) t)
    (hst : starEach (e :: es) X.env = (false, eval e X.env) :: starEach es X.env := by rfl) (hpl : (backTo pos (starEach es X.env)).any (·.1) = false := by rfl)
    (ht : eval (.Call (.Attribute o m apos) (e :: es) [] pos) X.env = (do
      let ov ← eval o X.env
      standAt apos.atName
      let (f, first) ← holding [ov] (getMethod ov m pl)
      callWith pos f first (backTo pos (starEach (e :: es) X.env)) (backToKw pos (keywordEach [] X.env))) := by rfl) :
    PE X (.Call (.Attribute o m apos) (e :: es) [] pos) (tMethS C m sp E ta t) := by
  refine ⟨fun pins s σ H Q I h => ?_⟩
  refine PySem.W.methodCall_KW (pl := pl) (thn (he.run pins s σ H _ I h) fun u s1 ⟨x, H1, I1, rx, a, dx, fs, ex, ea, l, q⟩ => ?_) ht
  subst ex
  obtain rfl : u = Value.ref a := rx
  refine getmeth_ok I1 ea c hm l ?_
  refine PySem.W.callWith_K (first := [.ref a]) (h₀ := X.base) I.ok.mod.kin hm.kp (thn (ha.run pos pins s1 σ H1 _ I1 q) fun us s2 ⟨vs, H2, I2, r, q2⟩ => ⟨I2.kIn, ?_⟩) hst hpl
  exact wpAny_call (run_at (us := .ref a :: us) (vs := .ref a :: vs) (fnR_of F hb) hr (hx σ) I2 (.cons rfl r) q2)
def MethSK (C : Addr) (m : Str) (sp : Sp) (E : XK) (t : TA) (σ : L2.St) (x : V) (H1 : Hp) (Q : VK) : Prop := ∃ a dx fs, x = .ref a ∧ H1 a = some (.ins C dx fs) ∧ fs.lookup m = none ∧ t σ H1 fun vs H2 => sp (x :: vs) H2 Q E
theorem rd_methS {σ : L2.St} {H : Hp} {Q : VK} (h : ta σ H fun x H1 => MethSK C m sp (E σ) t σ x H1 Q) : tMethS C m sp E ta t σ H Q := h
theorem rd_methSK {σ : L2.St} {H : Hp} {Q : VK} {E : XK} {a dx : Addr} {fs : List (Str × V)} (e : H a = some (.ins C dx fs)) (l : fs.lookup m = none) (q : t σ H fun vs H2 => sp (.ref a :: vs) H2 Q E) : MethSK C m sp E t σ (.ref a) H Q := ⟨a, dx, fs, rfl, e, l, q⟩
end
end Hk

/-! try with several clauses, some with a name and some without; texts replaced in a written list. -/
namespace Hk
open PySem PySem.Spec PyProof.Rows L2
abbrev ClauseN := Value × Option Nat × (Addr → Value → Option Addr → TS)
def goneN (oi : Option Nat) (D : Ends) : Ends := match oi with | some i => gone i D | none => D
def withN (oi : Option Nat) (σ : L2.St) (ex : Addr) : L2.St := match oi with | some i => σ.set i (some (.ref ex)) | none => σ
/-- what the clauses want, one by one -/
def wClN (K : PySem.W.Frag) (Wout : WX) (D : Ends) : List ClauseN → WX
  | [] => Wout
  | (c, i, ts) :: more => fun cls d σ H => ∃ yes : Bool, PySem.W.exmOne K cls c = some yes ∧ (yes = true → ∀ ex, H ex = none → ts ex cls d (goneN i D) (withN i σ ex) H) ∧ (yes = false → wClN K Wout D more cls d σ H)
inductive ClausesN (X : Cx) : List ExceptHandler → List ClauseN → Prop
  | nil : ClausesN X [] []
  | cons {x n : Str} {c : Value} {i : Nat} {ts : Addr → Value → Option Addr → TS} {st : Stmt} {sts : List Stmt} {np hp : Pos} {hds : List ExceptHandler} {cl : List ClauseN} (hi : X.N[i]? = some n) (hk : X.env.kindOf n = some .local) (hc : Names X x c)
      (hsu : ∀ (ex : Addr) (eo : Obj) (cls : Value) (d : Option Addr) (pn : List (Addr × Obj)), Zc cls d eo → (∃ fs, eo.data = .fields fs) → PSs (X.suite ex ((ex, eo) :: pn)) (st :: sts) (ts ex cls d)) (more : ClausesN X hds cl) :
      ClausesN X (.ExceptHandler (some (.Name x np)) (some n) (st :: sts) hp :: hds) ((c, some i, ts) :: cl)
  | bare {x : Str} {c : Value} {ts : Addr → Value → Option Addr → TS} {st : Stmt} {sts : List Stmt} {np hp : Pos} {hds : List ExceptHandler} {cl : List ClauseN} (hc : Names X x c)
      (hsu : ∀ (ex : Addr) (eo : Obj) (cls : Value) (d : Option Addr) (pn : List (Addr × Obj)), Zc cls d eo → (∃ fs, eo.data = .fields fs) → PSs (X.suite ex ((ex, eo) :: pn)) (st :: sts) (ts ex cls d)) (more : ClausesN X hds cl) :
      ClausesN X (.ExceptHandler (some (.Name x np)) none (st :: sts) hp :: hds) ((c, none, ts) :: cl)
section
variable {X : Cx} {body : List Stmt} {hd : ExceptHandler} {hds : List ExceptHandler} {cl : List ClauseN} {pos : Pos} {tb : WX → TS} {Wout : WX}
theorem ps_tryN (e1 : X.stack = X.env :: X.outer) (e2 : X.env.frame = some X.env.locals) (nd : X.N.Nodup) (out : Takes X Wout)
    (bd : ∀ (W : WX) (pn : List (Addr × Obj)) (xe : Value → Shared → Prop), Takes (X.tr pn xe) W → PassesOwn (model X.prog X.w) X.A X.env xe → PSs (X.tr pn xe) body (tb W))
    (all : ClausesN X (hd :: hds) cl) : PS X (.Try body (hd :: hds) [] [] pos) (fun D σ H => tb (wClN X.K Wout D cl) D σ H) := by
  refine ⟨fun pins s σ H D I want => ?_⟩
  have good := I.ok
  have fr : X.A.frames = some (X.env :: X.outer) := good.frames.trans (congrArg some e1)
  refine wpAny_Try_except (wpAny_mono ((bd (wClN X.K Wout D cl) (X.pn ++ pins)
    (fun u s1 => wpAny (model X.prog X.w) X.A (noteFrame u X.env)
      (fun _ s2 => wpAny (model X.prog X.w) X.A (setFlight u none)
        (fun _ s3 => wpAny (model X.prog X.w) X.A (handleBy u X.env (hd :: hds)) (SP X pins D) X.xe s3) X.xe s2) X.xe s1)
    (fun u s1 flown => ?_) PassesOwn.looking).run [] s σ H D (I.toTry _) want) (fun fl s1 ended => ?_) (fun _ _ z => z))
  · obtain ⟨ex, Bh, sB, pins1, σ1, H1, cls, d, rfl, JT, nB, upB, air, free, sameOs, sameG, wish⟩ := flown
    have J : Inv X pins σ1 H1 sB := JT.ofTry good
    have air1 : Sky Bh (X.env :: X.outer) ex (Zc cls d) X.env.locals s1.heap := e1 ▸ air
    refine Sky.land Zc.steady fr e2 air1 fun hL flL upL => ?_
    have JL : Inv X pins σ1 H1 { s1 with heap := hL } := J.landed nB flL.1 (upB.trans upL) sameOs sameG
    obtain ⟨eo, efs, atL, zL, dL⟩ := flL.there
    have out1 : ex ∉ frs (X.env :: X.outer) := fun inF => by
      obtain ⟨_, o1, at1, no1⟩ := flL.2.2.1.mem inF
      cases atL.symm.trans at1
      exact no1 _ dL
    have neL : ex ≠ X.env.locals := fun q => out1 (List.mem_filterMap.mpr ⟨X.env, List.mem_cons_self, e2.trans (congrArg some q.symm)⟩)
    have neF : ex ∉ X.fs := fun inF => by
      obtain ⟨en, inEn, q⟩ := List.mem_filterMap.mp inF
      exact out1 (List.mem_filterMap.mpr ⟨en, List.mem_cons_of_mem _ inEn, q⟩)
    have SL := JL.suite atL dL free neL neF
    have tyL : PySem.W.Looks (model X.prog X.w) hL (typeOf (.ref ex)) cls := fun A1 Q1 E1 s2 kp q => wpAny_typeOf_ref (kp _ _ atL) (by rw [zL.1]; exact q)
    have each : ∀ {hs1 : List ExceptHandler} {c1 : List ClauseN}, ClausesN X hs1 c1 → wClN X.K Wout D c1 cls d σ1 H1 → wpAny (model X.prog X.w) X.A (handleBy (.ref ex) X.env hs1) (SP X pins D) X.xe { s1 with heap := hL } := by
      intro hs1 c1 ok1
      induction ok1 with
      | nil =>
        intro wish1
        have up1 : wpAny (model X.prog X.w) X.A (setFlight (.ref ex) X.env.frame) (fun _ s4 => wpAny (model X.prog X.w) X.A (throw (.ref ex) : Sem Flow) (SP X pins D) X.xe s4) X.xe { s1 with heap := hL } := by
          rw [e2]
          refine HandSPX.setFlight_upZ flL fun hU heldU upU => wpAny_throw (out _ _ ⟨ex, Bh, sB, pins, σ1, H1, cls, d, rfl, J, nB, (upB.trans upL).trans upU, .inr (.inr ?_), free, sameOs, sameG, wish1⟩)
          rw [e1]
          exact heldU
        obtain ⟨_, _, _, o1, fs1, T1, _, _, at1, _, d1, f1, _⟩ := id flL
        refine wpAny_handleBy_nil ?_
        unfold PySem.passOn
        refine wpAny_bind (wpAny_field at1 d1 f1 ?_)
        rw [if_neg (show ¬ ((Value.ref T1 == Value.none) = true) from by simp)]
        first | exact wpAny_bind (wpAny_pure (wpAny_bind up1)) | exact wpAny_bind up1
      | @cons x n c i ts st sts np hp hds2 cl2 hi hk hc hsu more ih =>
        intro wish1
        obtain ⟨yes, m1, ifY, ifN⟩ := wish1
        have name : ∀ {Q1 : Value → Shared → Prop} {E1 : Value → Shared → Prop}, Q1 c { s1 with heap := hL } → wpAny (model X.prog X.w) (X.A.mark (some (.ref ex))) (eval (.Name x np) X.env) Q1 E1 { s1 with heap := hL } := fun {Q1 E1} q => by
          rcases hc with ⟨gl, nod, gm | ⟨gm, gb, gn⟩⟩
          · exact ld_glob (X := X.suite ex ((ex, eo) :: (X.pn ++ pins))) SL gl gm q nod
          · exact ld_blt (X := X.suite ex ((ex, eo) :: (X.pn ++ pins))) SL gl gm gb q gn nod
        refine wpAny_handleBy_cons (codeAny_handlers_test (name ((PySem.W.exm_one (M := model X.prog X.w) JL.kIn tyL m1).here ?_))) (by intro q; cases q)
        cases yes with
        | false => exact ih (ifN rfl)
        | true =>
          refine codeAny_handlers_suite_as (HandSPX.lands_againZ flL fun hA flA upA => ?_)
          have JA : Inv X pins σ1 H1 { s1 with heap := hA } := J.landed nB flA.1 ((upB.trans upL).trans upA) sameOs sameG
          obtain ⟨eoA, fsA, atA, zA, dA⟩ := flA.there
          refine store_ok (X := X.suite ex ((ex, eoA) :: (X.pn ++ pins))) (v := .ref ex) (JA.suite atA dA free neL neF) nd hi (.inl hk) rfl (fun s5 S5 => ?_) (.inr hk)
          have last : ∀ {σ6 : L2.St} {H6 : Hp} {s6 : Shared} {Q6 : Shared → Prop}, Inv (X.suite ex ((ex, eoA) :: (X.pn ++ pins))) [] σ6 H6 s6 → (∀ s7, Inv X pins (σ6.set i none) H6 s7 → Q6 s7) →
              wpAny (model X.prog X.w) X.A (do bindName X.env n .none; unbindBehindTheSuite X.env n hp) (fun _ s7 => Q6 s7) X.xe s6 := fun S6 fin6 => gone_ok (S6.unsuite good) nd hi hk fin6
          refine wpAny_mono ((hsu ex eoA cls d (X.pn ++ pins) zA ⟨_, dA⟩).run [] s5 _ H1 _ S5 (ifY rfl ex free)) (fun fl s6 at6 => ?_) (fun _ _ z => False.elim z)
          cases fl with
          | ret u => exact let ⟨_, _, _, S6, r6, q6⟩ := at6; last S6 fun _ J7 => ⟨_, _, _, J7, r6, q6⟩
          | next => exact let ⟨_, _, S6, q6⟩ := at6; last S6 fun _ J7 => ⟨_, _, J7, q6⟩
          | brk => exact let ⟨_, _, S6, q6⟩ := at6; last S6 fun _ J7 => ⟨_, _, J7, q6⟩
          | cont => exact let ⟨_, _, S6, q6⟩ := at6; last S6 fun _ J7 => ⟨_, _, J7, q6⟩
      | @bare x c ts st sts np hp hds2 cl2 hc hsu more ih =>
        intro wish1
        obtain ⟨yes, m1, ifY, ifN⟩ := wish1
        have name : ∀ {Q1 : Value → Shared → Prop} {E1 : Value → Shared → Prop}, Q1 c { s1 with heap := hL } → wpAny (model X.prog X.w) (X.A.mark (some (.ref ex))) (eval (.Name x np) X.env) Q1 E1 { s1 with heap := hL } := fun {Q1 E1} q => by
          rcases hc with ⟨gl, nod, gm | ⟨gm, gb, gn⟩⟩
          · exact ld_glob (X := X.suite ex ((ex, eo) :: (X.pn ++ pins))) SL gl gm q nod
          · exact ld_blt (X := X.suite ex ((ex, eo) :: (X.pn ++ pins))) SL gl gm gb q gn nod
        refine wpAny_handleBy_cons (codeAny_handlers_test (name ((PySem.W.exm_one (M := model X.prog X.w) JL.kIn tyL m1).here ?_))) (by intro q; cases q)
        cases yes with
        | false => exact ih (ifN rfl)
        | true =>
          refine codeAny_handlers_suite (HandSPX.lands_againZ flL fun hA flA upA => ?_)
          have JA : Inv X pins σ1 H1 { s1 with heap := hA } := J.landed nB flA.1 ((upB.trans upL).trans upA) sameOs sameG
          obtain ⟨eoA, fsA, atA, zA, dA⟩ := flA.there
          have SA := JA.suite atA dA free neL neF
          refine wpAny_mono ((hsu ex eoA cls d (X.pn ++ pins) zA ⟨_, dA⟩).run [] _ _ H1 _ SA (ifY rfl ex free)) (fun fl s6 at6 => ?_) (fun _ _ z => False.elim z)
          cases fl with
          | ret u => exact let ⟨_, _, _, S6, r6, q6⟩ := at6; ⟨_, _, _, S6.unsuite good, r6, q6⟩
          | next => exact let ⟨_, _, S6, q6⟩ := at6; ⟨_, _, S6.unsuite good, q6⟩
          | brk => exact let ⟨_, _, S6, q6⟩ := at6; ⟨_, _, S6.unsuite good, q6⟩
          | cont => exact let ⟨_, _, S6, q6⟩ := at6; ⟨_, _, S6.unsuite good, q6⟩
    exact each all wish
  · cases fl with
    | ret u => exact let ⟨_, _, _, J1, r1, q1⟩ := ended; ⟨_, _, _, J1.ofTry good, r1, q1⟩
    | next => exact let ⟨_, _, J1, q1⟩ := ended; wpAny_execs_nil ⟨_, _, J1.ofTry good, q1⟩
    | brk => exact let ⟨_, _, J1, q1⟩ := ended; ⟨_, _, J1.ofTry good, q1⟩
    | cont => exact let ⟨_, _, J1, q1⟩ := ended; ⟨_, _, J1.ofTry good, q1⟩
end
section
variable {K : PySem.W.Frag} {σ : L2.St} {H : Hp} {cls c : Value} {d : Option Addr} {i : Option Nat} {ts : Addr → Value → Option Addr → TS} {Wout : WX} {De : Ends} {more : List ClauseN}
theorem rd_wNY {j : Nat} (e : PySem.W.exmOne K cls c = some true) (h : ∀ a, H a = none → ts a cls d ⟨fun σ' H' => De.nx (σ'.set j none) H', De.rt, fun σ' H' => De.bk (σ'.set j none) H', fun σ' H' => De.ct (σ'.set j none) H'⟩ (σ.set j (some (.ref a))) H) : wClN K Wout De ((c, some j, ts) :: more) cls d σ H :=
  ⟨true, e, fun _ => h, fun q => Bool.noConfusion q⟩
theorem rd_wNB (e : PySem.W.exmOne K cls c = some true) (h : ∀ a, H a = none → ts a cls d De σ H) : wClN K Wout De ((c, none, ts) :: more) cls d σ H :=
  ⟨true, e, fun _ => h, fun q => Bool.noConfusion q⟩
theorem rd_wNN (e : PySem.W.exmOne K cls c = some false) (h : wClN K Wout De more cls d σ H) : wClN K Wout De ((c, i, ts) :: more) cls d σ H :=
  ⟨false, e, fun q => Bool.noConfusion q, fun _ => h⟩
end
section
variable {X : Cx} {e : Expr} {es : List Expr} {ta : TA} {te : TE}
/-- a written text at the front: behind it a token is out -/
theorem pa_strT {j : Nat} {c : Str} {cpos : Pos} (hr : PAT X es ta) (hs : starEach (.Constant (.str c) j cpos :: es) X.env = (false, eval (.Constant (.str c) j cpos) X.env) :: starEach es X.env := by rfl) : PA X (.Constant (.str c) j cpos :: es) (tCons (tC (.str c)) ta) := by
  refine ⟨fun pos pins s σ H Q I h => ?_⟩
  rw [hs]
  show wpAny _ _ (spliced ((false, eval (.Constant (.str c) j cpos) X.env) :: backTo pos (starEach es X.env))) _ _ s
  refine Calls.spliced_cons (Calls.Constant_str ?_)
  exact thn (hr pos pins { s with toks := s.toks + 1 } σ H _ (by show 1 ≤ s.toks + 1; omega) (I.tok _) h) fun us s2 ⟨xs, H2, I2, r2, q2⟩ => ⟨.str c :: xs, H2, I2, .cons ⟨_, rfl⟩ r2, q2⟩
end
end Hk

namespace Lb
open PySem L2 Hk
def top (i : Nat) : Stmt := PySem.Challenge.pw_heirsback_k02_libraries_refused.main.body.getD i (.Pass ⟨0, 0, 0, 0⟩)
abbrev s_BadLibrary_init : Stmt := inClass (top 3) 0
theorem sc_BadLibrary_init : FnScope ["self", "at"] ["self", "at"] (defScope s_BadLibrary_init) := ⟨rfl, rfl, rfl, by decide +kernel, rfl, by decide +kernel, by decide +kernel⟩
abbrev s_is_word : Stmt := top 18
theorem sc_is_word : FnScope ["word", "sign"] ["word"] (defScope s_is_word) := ⟨rfl, rfl, rfl, by decide +kernel, rfl, by decide +kernel, by decide +kernel⟩
abbrev s_is_class_name : Stmt := top 19
theorem sc_is_class_name : FnScope ["word", "sign"] ["word"] (defScope s_is_class_name) := ⟨rfl, rfl, rfl, by decide +kernel, rfl, by decide +kernel, by decide +kernel⟩
abbrev s_is_field_name : Stmt := top 20
theorem sc_is_field_name : FnScope ["word"] ["word"] (defScope s_is_field_name) := ⟨rfl, rfl, rfl, by decide +kernel, rfl, by decide +kernel, by decide +kernel⟩
abbrev s_arity_of : Stmt := top 21
theorem sc_arity_of : FnScope ["sign"] ["sign"] (defScope s_arity_of) := ⟨rfl, rfl, rfl, by decide +kernel, rfl, by decide +kernel, by decide +kernel⟩
abbrev s_makers_for : Stmt := top 22
theorem sc_makers_for : FnScope ["arity", "has_hook", "maker"] ["arity", "has_hook"] (defScope s_makers_for) := ⟨rfl, rfl, rfl, by decide +kernel, rfl, by decide +kernel, by decide +kernel⟩
abbrev s_LibraryDraft_init : Stmt := inClass (top 23) 0
theorem sc_LibraryDraft_init : FnScope ["self"] ["self"] (defScope s_LibraryDraft_init) := ⟨rfl, rfl, rfl, by decide +kernel, rfl, by decide +kernel, by decide +kernel⟩
abbrev s_LibraryDraft_takes_line : Stmt := inClass (top 23) 1
theorem sc_LibraryDraft_takes_line : FnScope ["self", "words"] ["self", "words"] (defScope s_LibraryDraft_takes_line) := ⟨rfl, rfl, rfl, by decide +kernel, rfl, by decide +kernel, by decide +kernel⟩
abbrev s_LibraryDraft_takes_name : Stmt := inClass (top 23) 2
theorem sc_LibraryDraft_takes_name : FnScope ["self", "words"] ["self", "words"] (defScope s_LibraryDraft_takes_name) := ⟨rfl, rfl, rfl, by decide +kernel, rfl, by decide +kernel, by decide +kernel⟩
abbrev s_LibraryDraft_is_new : Stmt := inClass (top 23) 3
theorem sc_LibraryDraft_is_new : FnScope ["self", "word", "row"] ["self", "word"] (defScope s_LibraryDraft_is_new) := ⟨rfl, rfl, rfl, by decide +kernel, rfl, by decide +kernel, by decide +kernel⟩
abbrev s_LibraryDraft_takes_needs : Stmt := inClass (top 23) 4
theorem sc_LibraryDraft_takes_needs : FnScope ["self", "words"] ["self", "words"] (defScope s_LibraryDraft_takes_needs) := ⟨rfl, rfl, rfl, by decide +kernel, rfl, by decide +kernel, by decide +kernel⟩
abbrev s_LibraryDraft_takes_keeps : Stmt := inClass (top 23) 5
theorem sc_LibraryDraft_takes_keeps : FnScope ["self", "words", "row"] ["self", "words"] (defScope s_LibraryDraft_takes_keeps) := ⟨rfl, rfl, rfl, by decide +kernel, rfl, by decide +kernel, by decide +kernel⟩
abbrev s_LibraryDraft_takes_hook : Stmt := inClass (top 23) 6
theorem sc_LibraryDraft_takes_hook : FnScope ["self", "words"] ["self", "words"] (defScope s_LibraryDraft_takes_hook) := ⟨rfl, rfl, rfl, by decide +kernel, rfl, by decide +kernel, by decide +kernel⟩
abbrev s_LibraryDraft_takes_request : Stmt := inClass (top 23) 7
theorem sc_LibraryDraft_takes_request : FnScope ["self", "words"] ["self", "words"] (defScope s_LibraryDraft_takes_request) := ⟨rfl, rfl, rfl, by decide +kernel, rfl, by decide +kernel, by decide +kernel⟩
abbrev s_LibraryDraft_takes_operation : Stmt := inClass (top 23) 8
theorem sc_LibraryDraft_takes_operation : FnScope ["self", "words", "at", "changed", "part"] ["self", "words"] (defScope s_LibraryDraft_takes_operation) := ⟨rfl, rfl, rfl, by decide +kernel, rfl, by decide +kernel, by decide +kernel⟩
abbrev s_LibraryDraft_takes_row : Stmt := inClass (top 23) 9
theorem sc_LibraryDraft_takes_row : FnScope ["self", "sign", "changed", "maker", "row"] ["self", "sign", "changed", "maker"] (defScope s_LibraryDraft_takes_row) := ⟨rfl, rfl, rfl, by decide +kernel, rfl, by decide +kernel, by decide +kernel⟩
abbrev s_Library_init : Stmt := inClass (top 24) 0
theorem sc_Library_init : FnScope ["self", "name", "root_parameters", "kept", "root_hook", "rows", "row"] ["self", "name", "root_parameters", "kept", "root_hook", "rows"] (defScope s_Library_init) := ⟨rfl, rfl, rfl, by decide +kernel, rfl, by decide +kernel, by decide +kernel⟩
abbrev s_Library_text_lines : Stmt := inClass (top 24) 1
theorem sc_Library_text_lines : FnScope ["self", "lines", "part", "field", "of", "sign", "changed", "maker", "told"] ["self"] (defScope s_Library_text_lines) := ⟨rfl, rfl, rfl, by decide +kernel, rfl, by decide +kernel, by decide +kernel⟩
abbrev s_Library_read : Stmt := inClass (top 24) 2
theorem sc_Library_read : FnScope ["cls", "text", "draft", "lines", "at", "line"] ["cls", "text"] (defScope s_Library_read) := ⟨rfl, rfl, rfl, by decide +kernel, rfl, by decide +kernel, by decide +kernel⟩
abbrev s_Library_str : Stmt := inClass (top 24) 14
theorem sc_Library_str : FnScope ["self"] ["self"] (defScope s_Library_str) := ⟨rfl, rfl, rfl, by decide +kernel, rfl, by decide +kernel, by decide +kernel⟩
abbrev s_law_bag : Stmt := top 26
theorem sc_law_bag : FnScope ["_law_script", "_law_at_here", "_law_salt", "_law_cell", "_law_mixed", "_law_k", "_law_each"] ["_law_script", "_law_at_here", "_law_salt"] (defScope s_law_bag) := ⟨rfl, rfl, rfl, by decide +kernel, rfl, by decide +kernel, by decide +kernel⟩
abbrev s_law_take : Stmt := top 27
theorem sc_law_take : FnScope ["_law_bag_here", "_law_many", "_law_digit"] ["_law_bag_here", "_law_many"] (defScope s_law_take) := ⟨rfl, rfl, rfl, by decide +kernel, rfl, by decide +kernel, by decide +kernel⟩
abbrev s_law_of : Stmt := top 28
theorem sc_law_of : FnScope ["_law_bag_here", "_law_some"] ["_law_bag_here", "_law_some"] (defScope s_law_of) := ⟨rfl, rfl, rfl, by decide +kernel, rfl, by decide +kernel, by decide +kernel⟩
abbrev s_law_words : Stmt := top 29
theorem sc_law_words : FnScope ["_law_bag_here", "_law_many", "_law_left", "_law_found", "_law_stem", "_law_turn", "_law_is_ahead", "_law_sign", "_law_word"] ["_law_bag_here", "_law_many"] (defScope s_law_words) := ⟨rfl, rfl, rfl, by decide +kernel, rfl, by decide +kernel, by decide +kernel⟩
abbrev s_law_titles : Stmt := top 30
theorem sc_law_titles : FnScope ["_law_bag_here", "_law_many", "_law_left", "_law_found", "_law_stem", "_law_turn", "_law_is_ahead", "_law_sign"] ["_law_bag_here", "_law_many"] (defScope s_law_titles) := ⟨rfl, rfl, rfl, by decide +kernel, rfl, by decide +kernel, by decide +kernel⟩
abbrev s_law_makers : Stmt := top 31
theorem sc_law_makers : FnScope ["_law_arity", "_law_hooked", "_law_found", "_law_way"] ["_law_arity", "_law_hooked"] (defScope s_law_makers) := ⟨rfl, rfl, rfl, by decide +kernel, rfl, by decide +kernel, by decide +kernel⟩
abbrev s_law_library : Stmt := top 32
theorem sc_law_library : FnScope ["_law_bag_here", "_law_fields", "_law_name", "_law_most", "_law_parts", "_law_turn", "_law_kept", "_law_rows", "_law_row", "_law_hooked", "_law_asks", "_law_left", "_law_sign", "_law_arity", "_law_changed", "_law_part"] ["_law_bag_here", "_law_fields", "_law_name", "_law_most"] (defScope s_law_library) := ⟨rfl, rfl, rfl, by decide +kernel, rfl, by decide +kernel, by decide +kernel⟩
abbrev s_law_lines : Stmt := top 33
theorem sc_law_lines : FnScope ["_law_lib", "_law_found", "_law_part", "_law_row", "_law_sign", "_law_changed", "_law_maker", "_law_arity"] ["_law_lib"] (defScope s_law_lines) := ⟨rfl, rfl, rfl, by decide +kernel, rfl, by decide +kernel, by decide +kernel⟩
abbrev s_law_wrong_fields : Stmt := top 34
theorem sc_law_wrong_fields : FnScope ["_law_lib", "_law_lines_here", "_law_at_here", "_law_known", "_law_line"] ["_law_lib", "_law_lines_here", "_law_at_here"] (defScope s_law_wrong_fields) := ⟨rfl, rfl, rfl, by decide +kernel, rfl, by decide +kernel, by decide +kernel⟩
abbrev s_law_wrong_operations : Stmt := top 35
theorem sc_law_wrong_operations : FnScope ["_law_lib", "_law_row", "_law_sign", "_law_changed", "_law_maker", "_law_arity", "_law_begin", "_law_makers_here", "_law_one", "_law_found", "_law_first", "_law_kept", "_law_pair", "_law_parts", "_law_part"] ["_law_lib", "_law_row"] (defScope s_law_wrong_operations) := ⟨rfl, rfl, rfl, by decide +kernel, rfl, by decide +kernel, by decide +kernel⟩
abbrev s_law_wrong : Stmt := top 36
theorem sc_law_wrong : FnScope ["_law_lib", "_law_lines_here", "_law_at_here", "_law_line", "_law_words_here", "_law_found", "_law_one"] ["_law_lib", "_law_lines_here", "_law_at_here"] (defScope s_law_wrong) := ⟨rfl, rfl, rfl, by decide +kernel, rfl, by decide +kernel, by decide +kernel⟩
abbrev s_law_at : Stmt := top 37
theorem sc_law_at : FnScope ["_law_thing", "e", "_law_told"] ["_law_thing"] (defScope s_law_at) := ⟨rfl, rfl, rfl, by decide +kernel, rfl, by decide +kernel, by decide +kernel⟩
abbrev s_law : Stmt := top 38
theorem sc_law : FnScope ["_law_script", "_law_at_here", "_law_bag_here", "_law_lib", "_law_lines_here", "_law_turn", "_law_place", "_law_spoilt", "_law_second", "_law_text", "_law_thing"] ["_law_script"] (defScope s_law) := ⟨rfl, rfl, rfl, by decide +kernel, rfl, by decide +kernel, by decide +kernel⟩
structure Ad where
  f_BadLibrary_init : Addr
  fd_BadLibrary_init : FuncData
  f_is_word : Addr
  fd_is_word : FuncData
  f_is_class_name : Addr
  fd_is_class_name : FuncData
  f_is_field_name : Addr
  fd_is_field_name : FuncData
  f_arity_of : Addr
  fd_arity_of : FuncData
  f_makers_for : Addr
  fd_makers_for : FuncData
  f_LibraryDraft_init : Addr
  fd_LibraryDraft_init : FuncData
  f_LibraryDraft_takes_line : Addr
  fd_LibraryDraft_takes_line : FuncData
  f_LibraryDraft_takes_name : Addr
  fd_LibraryDraft_takes_name : FuncData
  f_LibraryDraft_is_new : Addr
  fd_LibraryDraft_is_new : FuncData
  f_LibraryDraft_takes_needs : Addr
  fd_LibraryDraft_takes_needs : FuncData
  f_LibraryDraft_takes_keeps : Addr
  fd_LibraryDraft_takes_keeps : FuncData
  f_LibraryDraft_takes_hook : Addr
  fd_LibraryDraft_takes_hook : FuncData
  f_LibraryDraft_takes_request : Addr
  fd_LibraryDraft_takes_request : FuncData
  f_LibraryDraft_takes_operation : Addr
  fd_LibraryDraft_takes_operation : FuncData
  f_LibraryDraft_takes_row : Addr
  fd_LibraryDraft_takes_row : FuncData
  f_Library_init : Addr
  fd_Library_init : FuncData
  f_Library_text_lines : Addr
  fd_Library_text_lines : FuncData
  f_Library_read : Addr
  fd_Library_read : FuncData
  p_Library_read : Addr
  f_Library_str : Addr
  fd_Library_str : FuncData
  f_law_bag : Addr
  fd_law_bag : FuncData
  f_law_take : Addr
  fd_law_take : FuncData
  f_law_of : Addr
  fd_law_of : FuncData
  f_law_words : Addr
  fd_law_words : FuncData
  f_law_titles : Addr
  fd_law_titles : FuncData
  f_law_makers : Addr
  fd_law_makers : FuncData
  f_law_library : Addr
  fd_law_library : FuncData
  f_law_lines : Addr
  fd_law_lines : FuncData
  f_law_wrong_fields : Addr
  fd_law_wrong_fields : FuncData
  f_law_wrong_operations : Addr
  fd_law_wrong_operations : FuncData
  f_law_wrong : Addr
  fd_law_wrong : FuncData
  f_law_at : Addr
  fd_law_at : FuncData
  f_law : Addr
  fd_law : FuncData
  C_LibraryDraft : Addr
  C_Library : Addr
  C_BadLibrary : Addr
  C_BadWorld : Addr
  C_HeirsbackError : Addr
  t_CAPITALS : Tok
  t_LETTERS : Tok
  a_BINARY_SIGNS : Addr
  a_UNARY_SIGNS : Addr
  a_BARRED : Addr
  a_HOOKS : Addr
  t_MOST_LETTERS : Tok
  t_MOST_PARAMETERS : Tok
  t_MOST_KEPT : Tok
  t_MOST_OPERATIONS : Tok
  a_MAKERS : Addr
  a_MAKERS_0 : Addr
  a_MAKERS_1 : Addr
  a_MAKERS_2 : Addr
structure Txt (K : PySem.W.Frag) (mg : Str → Option Value) (a : Ad) : Prop where
  F_BadLibrary_init : Fun K "__init__" "BadLibrary.__init__" s_BadLibrary_init a.f_BadLibrary_init a.fd_BadLibrary_init
  b_BadLibrary_init : Binds K a.fd_BadLibrary_init ["self", "at"] []
  m_BadLibrary_init : Meth K a.C_BadLibrary "__init__" a.f_BadLibrary_init
  F_is_word : Fun K "is_word" "is_word" s_is_word a.f_is_word a.fd_is_word
  b_is_word : Binds K a.fd_is_word ["word"] []
  g_is_word : mg "is_word" = some (.ref a.f_is_word)
  F_is_class_name : Fun K "is_class_name" "is_class_name" s_is_class_name a.f_is_class_name a.fd_is_class_name
  b_is_class_name : Binds K a.fd_is_class_name ["word"] []
  g_is_class_name : mg "is_class_name" = some (.ref a.f_is_class_name)
  F_is_field_name : Fun K "is_field_name" "is_field_name" s_is_field_name a.f_is_field_name a.fd_is_field_name
  b_is_field_name : Binds K a.fd_is_field_name ["word"] []
  g_is_field_name : mg "is_field_name" = some (.ref a.f_is_field_name)
  F_arity_of : Fun K "arity_of" "arity_of" s_arity_of a.f_arity_of a.fd_arity_of
  b_arity_of : Binds K a.fd_arity_of ["sign"] []
  g_arity_of : mg "arity_of" = some (.ref a.f_arity_of)
  F_makers_for : Fun K "makers_for" "makers_for" s_makers_for a.f_makers_for a.fd_makers_for
  b_makers_for : Binds K a.fd_makers_for ["arity", "has_hook"] []
  g_makers_for : mg "makers_for" = some (.ref a.f_makers_for)
  F_LibraryDraft_init : Fun K "__init__" "LibraryDraft.__init__" s_LibraryDraft_init a.f_LibraryDraft_init a.fd_LibraryDraft_init
  b_LibraryDraft_init : Binds K a.fd_LibraryDraft_init ["self"] []
  m_LibraryDraft_init : Meth K a.C_LibraryDraft "__init__" a.f_LibraryDraft_init
  F_LibraryDraft_takes_line : Fun K "takes_line" "LibraryDraft.takes_line" s_LibraryDraft_takes_line a.f_LibraryDraft_takes_line a.fd_LibraryDraft_takes_line
  b_LibraryDraft_takes_line : Binds K a.fd_LibraryDraft_takes_line ["self", "words"] []
  m_LibraryDraft_takes_line : Meth K a.C_LibraryDraft "takes_line" a.f_LibraryDraft_takes_line
  F_LibraryDraft_takes_name : Fun K "takes_name" "LibraryDraft.takes_name" s_LibraryDraft_takes_name a.f_LibraryDraft_takes_name a.fd_LibraryDraft_takes_name
  b_LibraryDraft_takes_name : Binds K a.fd_LibraryDraft_takes_name ["self", "words"] []
  m_LibraryDraft_takes_name : Meth K a.C_LibraryDraft "takes_name" a.f_LibraryDraft_takes_name
  F_LibraryDraft_is_new : Fun K "is_new" "LibraryDraft.is_new" s_LibraryDraft_is_new a.f_LibraryDraft_is_new a.fd_LibraryDraft_is_new
  b_LibraryDraft_is_new : Binds K a.fd_LibraryDraft_is_new ["self", "word"] []
  m_LibraryDraft_is_new : Meth K a.C_LibraryDraft "is_new" a.f_LibraryDraft_is_new
  F_LibraryDraft_takes_needs : Fun K "takes_needs" "LibraryDraft.takes_needs" s_LibraryDraft_takes_needs a.f_LibraryDraft_takes_needs a.fd_LibraryDraft_takes_needs
  b_LibraryDraft_takes_needs : Binds K a.fd_LibraryDraft_takes_needs ["self", "words"] []
  m_LibraryDraft_takes_needs : Meth K a.C_LibraryDraft "takes_needs" a.f_LibraryDraft_takes_needs
  F_LibraryDraft_takes_keeps : Fun K "takes_keeps" "LibraryDraft.takes_keeps" s_LibraryDraft_takes_keeps a.f_LibraryDraft_takes_keeps a.fd_LibraryDraft_takes_keeps
  b_LibraryDraft_takes_keeps : Binds K a.fd_LibraryDraft_takes_keeps ["self", "words"] []
  m_LibraryDraft_takes_keeps : Meth K a.C_LibraryDraft "takes_keeps" a.f_LibraryDraft_takes_keeps
  F_LibraryDraft_takes_hook : Fun K "takes_hook" "LibraryDraft.takes_hook" s_LibraryDraft_takes_hook a.f_LibraryDraft_takes_hook a.fd_LibraryDraft_takes_hook
  b_LibraryDraft_takes_hook : Binds K a.fd_LibraryDraft_takes_hook ["self", "words"] []
  m_LibraryDraft_takes_hook : Meth K a.C_LibraryDraft "takes_hook" a.f_LibraryDraft_takes_hook
  F_LibraryDraft_takes_request : Fun K "takes_request" "LibraryDraft.takes_request" s_LibraryDraft_takes_request a.f_LibraryDraft_takes_request a.fd_LibraryDraft_takes_request
  b_LibraryDraft_takes_request : Binds K a.fd_LibraryDraft_takes_request ["self", "words"] []
  m_LibraryDraft_takes_request : Meth K a.C_LibraryDraft "takes_request" a.f_LibraryDraft_takes_request
  F_LibraryDraft_takes_operation : Fun K "takes_operation" "LibraryDraft.takes_operation" s_LibraryDraft_takes_operation a.f_LibraryDraft_takes_operation a.fd_LibraryDraft_takes_operation
  b_LibraryDraft_takes_operation : Binds K a.fd_LibraryDraft_takes_operation ["self", "words"] []
  m_LibraryDraft_takes_operation : Meth K a.C_LibraryDraft "takes_operation" a.f_LibraryDraft_takes_operation
  F_LibraryDraft_takes_row : Fun K "takes_row" "LibraryDraft.takes_row" s_LibraryDraft_takes_row a.f_LibraryDraft_takes_row a.fd_LibraryDraft_takes_row
  b_LibraryDraft_takes_row : Binds K a.fd_LibraryDraft_takes_row ["self", "sign", "changed", "maker"] []
  m_LibraryDraft_takes_row : Meth K a.C_LibraryDraft "takes_row" a.f_LibraryDraft_takes_row
  F_Library_init : Fun K "__init__" "Library.__init__" s_Library_init a.f_Library_init a.fd_Library_init
  b_Library_init : Binds K a.fd_Library_init ["self", "name", "root_parameters", "kept", "root_hook", "rows"] []
  m_Library_init : Meth K a.C_Library "__init__" a.f_Library_init
  F_Library_text_lines : Fun K "text_lines" "Library.text_lines" s_Library_text_lines a.f_Library_text_lines a.fd_Library_text_lines
  b_Library_text_lines : Binds K a.fd_Library_text_lines ["self"] []
  m_Library_text_lines : Meth K a.C_Library "text_lines" a.f_Library_text_lines
  F_Library_read : Fun K "read" "Library.read" s_Library_read a.f_Library_read a.fd_Library_read
  b_Library_read : Binds K a.fd_Library_read ["cls", "text"] []
  cm_Library_read : ClX.CMet K a.C_Library (.type "type") "read" a.p_Library_read a.f_Library_read
  F_Library_str : Fun K "__str__" "Library.__str__" s_Library_str a.f_Library_str a.fd_Library_str
  b_Library_str : Binds K a.fd_Library_str ["self"] []
  m_Library_str : Meth K a.C_Library "__str__" a.f_Library_str
  F_law_bag : Fun K "_law_bag" "_law_bag" s_law_bag a.f_law_bag a.fd_law_bag
  b_law_bag : Binds K a.fd_law_bag ["_law_script", "_law_at_here", "_law_salt"] []
  g_law_bag : mg "_law_bag" = some (.ref a.f_law_bag)
  F_law_take : Fun K "_law_take" "_law_take" s_law_take a.f_law_take a.fd_law_take
  b_law_take : Binds K a.fd_law_take ["_law_bag_here", "_law_many"] []
  g_law_take : mg "_law_take" = some (.ref a.f_law_take)
  F_law_of : Fun K "_law_of" "_law_of" s_law_of a.f_law_of a.fd_law_of
  b_law_of : Binds K a.fd_law_of ["_law_bag_here", "_law_some"] []
  g_law_of : mg "_law_of" = some (.ref a.f_law_of)
  F_law_words : Fun K "_law_words" "_law_words" s_law_words a.f_law_words a.fd_law_words
  b_law_words : Binds K a.fd_law_words ["_law_bag_here", "_law_many"] []
  g_law_words : mg "_law_words" = some (.ref a.f_law_words)
  F_law_titles : Fun K "_law_titles" "_law_titles" s_law_titles a.f_law_titles a.fd_law_titles
  b_law_titles : Binds K a.fd_law_titles ["_law_bag_here", "_law_many"] []
  g_law_titles : mg "_law_titles" = some (.ref a.f_law_titles)
  F_law_makers : Fun K "_law_makers" "_law_makers" s_law_makers a.f_law_makers a.fd_law_makers
  b_law_makers : Binds K a.fd_law_makers ["_law_arity", "_law_hooked"] []
  g_law_makers : mg "_law_makers" = some (.ref a.f_law_makers)
  F_law_library : Fun K "_law_library" "_law_library" s_law_library a.f_law_library a.fd_law_library
  b_law_library : Binds K a.fd_law_library ["_law_bag_here", "_law_fields", "_law_name", "_law_most"] []
  g_law_library : mg "_law_library" = some (.ref a.f_law_library)
  F_law_lines : Fun K "_law_lines" "_law_lines" s_law_lines a.f_law_lines a.fd_law_lines
  b_law_lines : Binds K a.fd_law_lines ["_law_lib"] []
  g_law_lines : mg "_law_lines" = some (.ref a.f_law_lines)
  F_law_wrong_fields : Fun K "_law_wrong_fields" "_law_wrong_fields" s_law_wrong_fields a.f_law_wrong_fields a.fd_law_wrong_fields
  b_law_wrong_fields : Binds K a.fd_law_wrong_fields ["_law_lib", "_law_lines_here", "_law_at_here"] []
  g_law_wrong_fields : mg "_law_wrong_fields" = some (.ref a.f_law_wrong_fields)
  F_law_wrong_operations : Fun K "_law_wrong_operations" "_law_wrong_operations" s_law_wrong_operations a.f_law_wrong_operations a.fd_law_wrong_operations
  b_law_wrong_operations : Binds K a.fd_law_wrong_operations ["_law_lib", "_law_row"] []
  g_law_wrong_operations : mg "_law_wrong_operations" = some (.ref a.f_law_wrong_operations)
  F_law_wrong : Fun K "_law_wrong" "_law_wrong" s_law_wrong a.f_law_wrong a.fd_law_wrong
  b_law_wrong : Binds K a.fd_law_wrong ["_law_lib", "_law_lines_here", "_law_at_here"] []
  g_law_wrong : mg "_law_wrong" = some (.ref a.f_law_wrong)
  F_law_at : Fun K "_law_at" "_law_at" s_law_at a.f_law_at a.fd_law_at
  b_law_at : Binds K a.fd_law_at ["_law_thing"] []
  g_law_at : mg "_law_at" = some (.ref a.f_law_at)
  F_law : Fun K "law" "law" s_law a.f_law a.fd_law
  b_law : Binds K a.fd_law ["_law_script"] []
  g_law : mg "law" = some (.ref a.f_law)
  g_LibraryDraft : mg "LibraryDraft" = some (.ref a.C_LibraryDraft)
  cl_LibraryDraft : Cls K a.C_LibraryDraft
  ty_LibraryDraft : TyC K a.C_LibraryDraft
  cr_LibraryDraft : ClX.CRead K a.C_LibraryDraft (.type "type")
  mk_LibraryDraft : Mk K a.C_LibraryDraft a.f_LibraryDraft_init
  no_LibraryDraft_name : NoAttr K a.C_LibraryDraft "name"
  no_LibraryDraft_parts : NoAttr K a.C_LibraryDraft "parts"
  no_LibraryDraft_keeping : NoAttr K a.C_LibraryDraft "keeping"
  no_LibraryDraft_root_hook : NoAttr K a.C_LibraryDraft "root_hook"
  no_LibraryDraft_rows : NoAttr K a.C_LibraryDraft "rows"
  g_Library : mg "Library" = some (.ref a.C_Library)
  cl_Library : Cls K a.C_Library
  ty_Library : TyC K a.C_Library
  cr_Library : ClX.CRead K a.C_Library (.type "type")
  mk_Library : Mk K a.C_Library a.f_Library_init
  no_Library_name : NoAttr K a.C_Library "name"
  no_Library_root_parameters : NoAttr K a.C_Library "root_parameters"
  no_Library_kept : NoAttr K a.C_Library "kept"
  no_Library_root_hook : NoAttr K a.C_Library "root_hook"
  no_Library_rows : NoAttr K a.C_Library "rows"
  no_Library_order : NoAttr K a.C_Library "order"
  no_Library_changes : NoAttr K a.C_Library "changes"
  no_Library_made_by : NoAttr K a.C_Library "made_by"
  no_Library_text : NoAttr K a.C_Library "text"
  g_BadLibrary : mg "BadLibrary" = some (.ref a.C_BadLibrary)
  ty_BadLibrary : PySem.W.typeIn K (.ref a.C_BadLibrary) = some (.type "type")
  ic_BadLibrary : PySem.W.isClsIn K a.C_BadLibrary = true
  sb_BadLibrary : PySem.W.subIn K (.ref a.C_BadLibrary) (.type "BaseException") = some true
  ox_BadLibrary : OexC K a.C_BadLibrary
  xt_BadLibrary : PySem.W.typeIn K (.ref a.f_BadLibrary_init) = some (.type "function")
  no_BadLibrary_at : PySem.W.findIn K (.ref a.C_BadLibrary) "at" = some none
  xf_BadLibrary : XfC K a.C_BadLibrary
  xc_BadLibrary : ExcC K a.C_BadLibrary
  g_BadWorld : mg "BadWorld" = some (.ref a.C_BadWorld)
  ty_BadWorld : PySem.W.typeIn K (.ref a.C_BadWorld) = some (.type "type")
  ic_BadWorld : PySem.W.isClsIn K a.C_BadWorld = true
  sb_BadWorld : PySem.W.subIn K (.ref a.C_BadWorld) (.type "BaseException") = some true
  g_HeirsbackError : mg "HeirsbackError" = some (.ref a.C_HeirsbackError)
  ty_HeirsbackError : PySem.W.typeIn K (.ref a.C_HeirsbackError) = some (.type "type")
  ic_HeirsbackError : PySem.W.isClsIn K a.C_HeirsbackError = true
  sb_HeirsbackError : PySem.W.subIn K (.ref a.C_HeirsbackError) (.type "BaseException") = some true
  g_CAPITALS : mg "CAPITALS" = some (.str "ABCDEFGHIJKLMNOPQRSTUVWXYZ" a.t_CAPITALS)
  g_LETTERS : mg "LETTERS" = some (.str "abcdefghijklmnopqrstuvwxyz" a.t_LETTERS)
  g_BINARY_SIGNS : mg "BINARY_SIGNS" = some (.ref a.a_BINARY_SIGNS)
  q_BINARY_SIGNS : ∀ H : Hp, SqT K H a.a_BINARY_SIGNS [.str "+", .str "-", .str "*", .str "//", .str "&", .str "|", .str "^", .str "<<", .str ">>"]
  g_UNARY_SIGNS : mg "UNARY_SIGNS" = some (.ref a.a_UNARY_SIGNS)
  q_UNARY_SIGNS : ∀ H : Hp, SqT K H a.a_UNARY_SIGNS [.str "neg", .str "pos", .str "abs", .str "invert"]
  g_BARRED : mg "BARRED" = some (.ref a.a_BARRED)
  q_BARRED : ∀ H : Hp, SqT K H a.a_BARRED [.str "by", .str "changes", .str "name", .str "of", .str "to", .str "world"]
  g_HOOKS : mg "HOOKS" = some (.ref a.a_HOOKS)
  q_HOOKS : ∀ H : Hp, SqT K H a.a_HOOKS [.str "named", .str "call", .str "names", .str "renew", .str "copy"]
  g_MOST_LETTERS : mg "MOST_LETTERS" = some (.int 8 a.t_MOST_LETTERS)
  g_MOST_PARAMETERS : mg "MOST_PARAMETERS" = some (.int 3 a.t_MOST_PARAMETERS)
  g_MOST_KEPT : mg "MOST_KEPT" = some (.int 2 a.t_MOST_KEPT)
  g_MOST_OPERATIONS : mg "MOST_OPERATIONS" = some (.int 6 a.t_MOST_OPERATIONS)
  g_MAKERS : mg "MAKERS" = some (.ref a.a_MAKERS)
  dk_MAKERS : KDictI K a.a_MAKERS [(0, a.a_MAKERS_0), (1, a.a_MAKERS_1), (2, a.a_MAKERS_2)]
  q_MAKERS_0 : ∀ H : Hp, SqT K H a.a_MAKERS_0 [.str "named", .str "call own", .str "names own", .str "bare own"]
  q_MAKERS_1 : ∀ H : Hp, SqT K H a.a_MAKERS_1 [.str "named", .str "call own", .str "names own", .str "renew own", .str "copy own", .str "bare own", .str "hook"]
  q_MAKERS_2 : ∀ H : Hp, SqT K H a.a_MAKERS_2 [.str "named", .str "call own", .str "call other", .str "call deeper", .str "call common", .str "names own", .str "names other", .str "names deeper", .str "names common", .str "renew own", .str "renew other", .str "renew deeper", .str "copy own", .str "copy other", .str "copy deeper", .str "bare own", .str "hook"]
  su_bl : PySem.W.subIn K (.ref a.C_BadLibrary) (.ref a.C_BadLibrary) = some true
  su_bw : PySem.W.subIn K (.ref a.C_BadLibrary) (.ref a.C_BadWorld) = some false
  su_bh : PySem.W.subIn K (.ref a.C_BadLibrary) (.ref a.C_HeirsbackError) = some true
  su_bv : PySem.W.subIn K (.ref a.C_BadLibrary) (.type "ValueError") = some true
  su_bk : PySem.W.subIn K (.ref a.C_BadLibrary) (.type "LookupError") = some false
  xhd_hb : PySem.W.hasDictIn K a.C_HeirsbackError = true
  xhd_bw : PySem.W.hasDictIn K a.C_BadWorld = true
  n_LookupError : mg "LookupError" = none
  n_ValueError : mg "ValueError" = none
  n_abs : mg "abs" = none
  n_all : mg "all" = none
  n_bool : mg "bool" = none
  n_enumerate : mg "enumerate" = none
  n_int : mg "int" = none
  n_isinstance : mg "isinstance" = none
  n_len : mg "len" = none
  n_list : mg "list" = none
  n_max : mg "max" = none
  n_min : mg "min" = none
  n_range : mg "range" = none
  n_str : mg "str" = none
  n_tuple : mg "tuple" = none
local macro_rules | `(tactic| array_mem_dec) => `(tactic| with_reducible first
  | assumption | exact upd_same
  | (apply upd_new; assumption; array_mem_dec)
  | (apply upd_old; tlg_ne; array_mem_dec)
  | (apply same_at; assumption; array_mem_dec))
local macro_rules | `(tactic| tlg_ne) => `(tactic| with_reducible first
  | assumption | (apply Ne.symm; assumption)
  | (apply ne_new; assumption; array_mem_dec) | (apply ne_new'; assumption; array_mem_dec)
  | (apply ne_of; assumption; assumption; (with_unfolding_all (intro z; cases z; done))))
local macro_rules | `(tactic| decreasing_trivial_pre_omega) => `(tactic| with_reducible first
  | assumption | (apply sqL_of; array_mem_dec) | (apply sqT_of; array_mem_dec)
  | (apply Same.seq; assumption; decreasing_trivial_pre_omega) | (apply sqT_same; assumption; decreasing_trivial_pre_omega)
  | (apply sqL_new; assumption; decreasing_trivial_pre_omega) | (apply sqL_upd; tlg_ne; decreasing_trivial_pre_omega))
local macro_rules | `(tactic| kpt_turns) => `(tactic| with_reducible first
  | assumption | exact Same.refl _ | (apply same_ext; kpt_turns; assumption) | (apply same_mut; kpt_turns; keq_hits) | (apply same_step; assumption; kpt_turns))
local macro_rules | `(tactic| keq_hits) => `(tactic| with_reducible first | assumption | (apply same_none; assumption; keq_hits))
local macro_rules | `(tactic| sizeOf_list_dec) => `(tactic| first | (with_reducible assumption) | (with_reducible_and_instances omega) | (with_unfolding_all decide))
local macro_rules | `(tactic| array_get_dec) => `(tactic| first | (with_reducible assumption) | (apply sz_of; (with_unfolding_all simp); done) | (apply sz_of; omega) | (apply sz_lt; (with_unfolding_all simp); done) | (apply sz_lt; omega))
local macro_rules | `(tactic| keq_rows) => `(tactic| with_reducible first
  | apply rd_asgN | apply rd_seq | apply rd_parA | apply rd_par3A | apply rd_par2 | apply rd_par3 | apply rd_m1 | apply rd_isStr | apply rd_cval | apply rd_asg | apply rd_gname | apply rd_op | (show tVar _ _ _ _; refine rd_var (by with_unfolding_all rfl) ?_) | apply rd_c | apply rd_I0
  | apply rd_cons | apply rd_nil | apply rd_cb | apply rd_test | apply rd_bl | apply rd_fld | apply rd_drop | apply rd_ret | apply rd_retN | apply rd_next
  | apply rd_ifS | apply rd_un | apply rd_B | apply rd_and | apply rd_or | apply rd_not | apply rd_andV | apply rd_orV | apply rd_notV | apply rd_if
  | apply rd_int | apply rd_abs | apply rd_max | apply rd_min | apply rd_strS | apply rd_U
  | apply rd_eqTx | apply rd_neTx | apply rd_inTx | apply rd_notInTx | apply rd_fmt | (show FmtK (.str (tx _)) _ _; refine rd_fmtT (by omega) ?_) | apply rd_jsC | apply rd_jsN | (show JsK _ (tx _) _ (.str (tx _)) _ _; refine rd_JsK (by first | omega | (simp; done) | (simp; omega)) ?_) | (show rAddStr (.str (tx _)) (.str (tx _)) _ _; refine rd_addT (by first | omega | (simp; done) | (simp; omega)) ?_) | (show rLenStr [.str (tx _)] _ _; refine rd_lenTx (by omega) ?_)
  | (show rEq _ _ _ _; refine rd_eq (by with_unfolding_all rfl) ?_) | (show rNe _ _ _ _; refine rd_ne (by with_unfolding_all rfl) ?_) | apply rd_isNone | apply rd_notNone
  | (show rIxL _ _ _ _ _; refine rd_ixL (by decreasing_trivial_pre_omega) (by with_unfolding_all rfl) ?_) | (show rIxT _ _ _ _ _; refine rd_ixT (by decreasing_trivial_pre_omega) (by with_unfolding_all rfl) ?_)
  | (show rLenSeq _ _ _ _; refine rd_lenL (by decreasing_trivial_pre_omega) ?_) | (show rLenSeq _ _ _ _; refine rd_lenT (by decreasing_trivial_pre_omega) ?_)
  | (show rI _ _ _ _ _ _; refine rd_mod (by sizeOf_list_dec) ?_) | (show rI _ _ _ _ _ _; refine rd_div (by sizeOf_list_dec) (by sizeOf_list_dec) ?_) | (show rI _ _ _ _ _ _; refine rd_mulR (by sizeOf_list_dec) (by sizeOf_list_dec) ?_) | (show rI _ _ _ _ _ _; refine rd_mulL (by sizeOf_list_dec) (by sizeOf_list_dec) ?_) | (show rI _ _ _ _ _ _; refine rd_pow (by sizeOf_list_dec) ?_)
  | (show rSetL _ _ _ _ _; refine rd_setL (by array_mem_dec) (by with_unfolding_all rfl) ?_)
  | (show rSlL _ _ _ _ _ _; refine rd_slL (by decreasing_trivial_pre_omega) ?_) | apply rd_inSign | apply rd_notInSign | apply rd_tup | apply rd_lst | apply rd_sl | apply rd_noPart | apply rd_part | apply rd_isInt
  | apply rd_gsub | apply rd_gcons | apply rd_gnil | apply rd_call | apply rd_meth | apply rd_make | apply rd_smeth | apply rd_isC | apply rd_smethK | apply rd_cmeth | apply rd_cmethK
  | apply rd_bm | apply rd_bm0 | (show BmK _ _ _ _ _ _ _ _; refine rd_bmL (by array_mem_dec) ?_) | (show Bm0K _ _ _ _ _ _; refine rd_bm0L (by array_mem_dec) ?_) | apply rd_sfld | apply rd_aug | apply rd_rAdd | apply rd_brk | apply rd_cont
  | apply rd_for | apply rd_iList | (show IList _ _ _ _; refine rd_IList (by decreasing_trivial_pre_omega) ?_) | apply rd_iTup | (show ITup _ _ _ _; refine rd_ITup (by decreasing_trivial_pre_omega) ?_) | apply rd_iEnum | (show IEnum _ _ _ _; refine rd_IEnum (by decreasing_trivial_pre_omega) ?_) | apply rd_iRng1 | (show IRng1 _ _ _; refine rd_IRng1 (by sizeOf_list_dec) (by sizeOf_list_dec) ?_)
  | (show List.length _ ≤ sizeLine ∧ _; refine rd_new (by array_get_dec) ?_) | (show rLenStr _ _ _; refine rd_lenS (by array_get_dec) ?_) | (show rAddStr _ _ _ _; refine rd_addS (by array_get_dec) ?_) | (show rSlS _ _ _ _ _; refine rd_slS (by array_get_dec) ?_) | apply rd_lc | apply rd_yes | (show gTup _ _ _ _ _ _ _; refine rd_gtup (by decreasing_trivial_pre_omega) (by with_unfolding_all rfl) ?_) | (show tMakeL _ _ _ _ _ _ _ _; refine rd_makeL (by with_unfolding_all rfl) ?_))
local macro_rules | `(tactic| kas_types) => `(tactic| with_reducible first | apply rd_isi_int_int | apply rd_isi_int_bool | apply rd_isi_int_str | apply rd_isi_int_list | apply rd_isi_int_tuple | apply rd_isi_bool_int | apply rd_isi_bool_bool | apply rd_isi_bool_str | apply rd_isi_bool_list | apply rd_isi_bool_tuple | apply rd_isi_str_int | apply rd_isi_str_bool | apply rd_isi_str_str | apply rd_isi_str_list | apply rd_isi_str_tuple | (show rIsi _ _ _ _; refine rd_isi_list_int (by array_mem_dec) ?_) | (show rIsi _ _ _ _; refine rd_isi_list_bool (by array_mem_dec) ?_) | (show rIsi _ _ _ _; refine rd_isi_list_str (by array_mem_dec) ?_) | (show rIsi _ _ _ _; refine rd_isi_list_list (by array_mem_dec) ?_) | (show rIsi _ _ _ _; refine rd_isi_list_tuple (by array_mem_dec) ?_) | (show rIsi _ _ _ _; refine rd_isi_tuple_int (by array_mem_dec) ?_) | (show rIsi _ _ _ _; refine rd_isi_tuple_bool (by array_mem_dec) ?_) | (show rIsi _ _ _ _; refine rd_isi_tuple_str (by array_mem_dec) ?_) | (show rIsi _ _ _ _; refine rd_isi_tuple_list (by array_mem_dec) ?_) | (show rIsi _ _ _ _; refine rd_isi_tuple_tuple (by array_mem_dec) ?_) | apply rd_isi_NoneType_int | apply rd_isi_NoneType_bool | apply rd_isi_NoneType_str | apply rd_isi_NoneType_list | apply rd_isi_NoneType_tuple)
local macro_rules | `(tactic| lcg_src) => `(tactic| repeat keq_rows)

section
variable {P : Program} {w : World} {K : PySem.W.Frag} {mg : Str → Option Value} {base : Heap} {a : Ad}
/-- a draw: the bag's numbers turn, the answer lies below n -/
def sp_law_take : Sp := fun vs H Q _ => ∃ (b : Addr) (d m c n : Int), vs = [.ref b, .int n] ∧ H b = some (.lst [.int d, .int m, .int c]) ∧ 0 < n ∧ n < 2 ^ 100 ∧
  ∀ r d' m' : Int, 0 ≤ r → r < n → Q (.int r) (upd H b (.lst [.int d', .int m', .int c]))
theorem ok_law_take (T : Txt K mg a) : FnOk P w K mg base CX0 1 a.f_law_take a.fd_law_take ["_law_bag_here", "_law_many"]  sp_law_take := by
  refine T.F_law_take.ok sc_law_take (fun vs H Q E h => ?_) (fun cdv A outer s H vs Q E hr h => ?_)
  · obtain ⟨_, _, _, _, _, rfl, _⟩ := h
    rfl
  · obtain ⟨b, d, m, c, n, rfl, hb, h0, h1, k⟩ := h
    refine ⟨_, ((pss_cons (ps_if (pt_cmpR op_gt (pe_ix ix_list (pv 0) pe_int (fun _ _ => rfl)) pe_int (nomark _))
 (pss_cons (ps_set (i := 2) sc_law_take.nd rfl (Or.inl rfl) (pe_op op_mod (pe_callTy call_intI (by rfl) T.n_int (by decide +kernel) (pa_cons (pe_ix ix_list (pv 0) pe_int (fun _ _ => rfl)) pa_nil)) (pv 1)))
 (pss_cons (ps_asg (pe_op op_fdivW (pe_ix ix_list (pv 0) pe_int (fun _ _ => rfl)) (pv 1)) (pg_sub (pv 0) pe_int set_list))
 (pss_one (ps_ret (pv 2)))))
 pss_nil)
 (pss_cons (ps_asg (pe_op op_mod (pe_callTy call_intI (by rfl) T.n_int (by decide +kernel) (pa_cons (pe_op op_add (pe_op op_add (pe_op op_mul (pe_ix ix_list (pv 0) pe_int (fun _ _ => rfl)) pe_int) (pe_ix ix_list (pv 0) pe_int (fun _ _ => rfl))) pe_int) pa_nil)) pe_int) (pg_sub (pv 0) pe_int set_list))
 (pss_one (ps_ret (pe_op op_mod (pe_op op_fdivW (pe_op op_mod (pe_callTy call_intI (by rfl) T.n_int (by decide +kernel) (pa_cons (pe_op op_add (pe_op op_mul (pe_op op_fdivW (pe_ix ix_list (pv 0) pe_int (fun _ _ => rfl)) pe_int) pe_int) (pe_ix ix_list (pv 0) pe_int (fun _ _ => rfl))) pa_nil)) pe_int) pe_int) (pv 1))))))), ?_⟩
    try simp only [cxK]
    lcg_src
    refine ifD (fun c => ?_) (fun c => ?_)
    · lcg_src
      exact k _ _ _ (Int.emod_nonneg _ (by omega)) (Int.emod_lt_of_pos _ h0)
    · lcg_src
      exact k _ _ _ (Int.emod_nonneg _ (by omega)) (Int.emod_lt_of_pos _ h0)
theorem take_ok {F H : Hp} {b : Addr} {n : Int} {Q : VK} {E : XK} (hb : Bag3 F H b) (h0 : 0 < n) (h1 : n < 2 ^ 100) (k : ∀ (r : Nat) H', (r : Int) < n → Grow [b] F H F H' → Bag3 F H' b → Q (.int (r : Nat)) H') : sp_law_take [.ref b, .int n] H Q E := by
  obtain ⟨d, m, c, c0, c1, e⟩ := hb.hb
  refine ⟨b, d, m, c, n, rfl, e, h0, h1, fun r d' m' r0 r1 => ?_⟩
  obtain ⟨j, rfl⟩ := Int.eq_ofNat_of_zero_le r0
  exact k j _ r1 ((Grow.refl hb.fh).mut hb.fb (.inl (by simp))) ⟨same_mut hb.fh hb.fb, hb.fb, d', m', c, c0, c1, upd_same⟩
/-- a new bag -/
def sp_law_bag (K : PySem.W.Frag) : Sp := fun vs H Q _ => ∃ (sc : Addr) (ns : List Int) (at_ salt : Int), vs = [.ref sc, .int at_, .int salt] ∧ SqL K H sc (ns.map V.int) ∧ 0 ≤ at_ ∧ at_ < 100 ∧ ns.length ≤ 63 ∧
  ∀ (p : Addr) (d m c : Int) (H' : Hp), Same H H' → H p = none → 0 ≤ c → c < 2 ^ 100 → H' p = some (.lst [.int d, .int m, .int c]) → Q (.ref p) H'
theorem atI_ints {ns : List Int} {i : Int} (h0 : 0 ≤ i) (h1 : i < (ns.length : Int)) : ∃ z, atI (ns.map V.int) i = some (.int z) := by
  have e : i.toNat < ns.length := by omega
  refine ⟨ns[i.toNat], ?_⟩
  unfold atI ixN
  rw [List.length_map, if_pos h0, if_pos h1]
  simp [e]
theorem cut_ints {ns : List Int} {lo hi : Option Int} {i : Nat} {x : V} (h : (cutV (ns.map V.int) lo hi)[i]? = some x) : ∃ y, x = .int y := by
  have hm := List.mem_of_getElem? h
  unfold cutV at hm
  have hm := List.mem_of_mem_drop (List.mem_of_mem_take hm)
  obtain ⟨y, _, e⟩ := List.mem_map.mp hm
  exact ⟨y, e.symm⟩
theorem ok_law_bag (T : Txt K mg a) : FnOk P w K mg base CX0 1 a.f_law_bag a.fd_law_bag ["_law_script", "_law_at_here", "_law_salt"]  (sp_law_bag K) := by
  refine T.F_law_bag.ok sc_law_bag (fun vs H Q E h => ?_) (fun cdv A outer s H vs Q E hr h => ?_)
  · obtain ⟨_, _, _, _, rfl, _⟩ := h
    rfl
  · obtain ⟨sc, ns, at_, salt, rfl, hS, h0, h1, hl, k⟩ := h
    refine ⟨_, ((Evl.pss_cut (ps_set (i := 3) sc_law_bag.nd rfl (Or.inl rfl) (pe_ifExp (pt_cmpR op_lt (pv 1) (pe_callB call_lenSeq (by rfl) T.n_len (by decide +kernel) (pa_cons (pv 0) pa_nil)) (nomark _)) (pe_ix ix_list (pv 0) (pv 1) (fun _ _ => rfl)) pe_int))
 (pss_cons (ps_set (i := 4) sc_law_bag.nd rfl (Or.inl rfl) (pe_op op_add (pv 2) (pe_op op_mul pe_int (pv 1))))
 (pss_cons (ps_for PassesOwn.never rfl (pi_enum (by rfl) T.n_enumerate (pa_cons (pe_slice sl_list (pv 0) po_none (po_some pe_int)) pa_nil)) (pg_tup rfl (pgs_cons (pg_name (i := 5) sc_law_bag.nd rfl (Or.inl rfl)) (pgs_cons (pg_name (i := 6) sc_law_bag.nd rfl (Or.inl rfl)) pgs_nil)))
 (pss_one (ps_set (i := 4) sc_law_bag.nd rfl (Or.inl rfl) (pe_op op_mod (pe_callTy call_intI (by rfl) T.n_int (by decide +kernel) (pa_cons (pe_op op_add (pe_op op_add (pe_op op_mul (pv 4) pe_int) (pe_op op_mod (pe_callTy call_intI (by rfl) T.n_int (by decide +kernel) (pa_cons (pv 6) pa_nil)) pe_int)) (pe_op op_mul pe_int (pv 5))) pa_nil)) pe_int))))
 (pss_cons (ps_if (pt_cmpR op_ge (pe_callB call_absI (by rfl) T.n_abs (by decide +kernel) (pa_cons (pv 3) pa_nil)) (pe_op op_pow pe_int pe_int) (nomark _))
 (pss_one (ps_ret (pe_lst (pa_cons (pe_callB call_absI (by rfl) T.n_abs (by decide +kernel) (pa_cons (pv 3) pa_nil)) (pa_cons (pv 4) (pa_cons pe_int pa_nil))))))
 pss_nil)
 (pss_one (ps_ret (pe_lst (pa_cons pe_int (pa_cons (pv 4) (pa_cons (pe_callB call_absI (by rfl) T.n_abs (by decide +kernel) (pa_cons (pv 3) pa_nil)) pa_nil))))))))))), ?_⟩
    try simp only [cxK]
    refine rd_cut (fun σ' H' => H' = H ∧ ∃ z : Int, σ' = [some (.ref sc), some (.int at_), some (.int salt), some (.int z), none, none, none]) ?_ ?_
    · lcg_src
      refine ifD (fun c => ?_) (fun c => ?_)
      · rw [List.length_map] at c
        obtain ⟨z, hz⟩ := atI_ints h0 c
        lcg_src
        refine rd_ixL hS hz ?_
        lcg_src
        exact ⟨rfl, z, rfl⟩
      · lcg_src
        exact ⟨rfl, 0, rfl⟩
    · rintro σ' H' ⟨rfl, z, rfl⟩
      lcg_src
      intro l hl
      lcg_src
      refine fk_enum (xs := cutV (ns.map V.int) none (some 63)) (fun i σ H2 => Same (upd H' l (.lst (cutV (ns.map V.int) none (some 63)))) H2 ∧ ∃ (m : Int) (u v : Option V), σ = [some (.ref sc), some (.int at_), some (.int salt), some (.int z), some (.int m), u, v])
        ⟨Same.refl _, _, _, _, rfl⟩ (fun i σ H2 _ ⟨s2, _⟩ => sqL_of (s2 _ _ upd_same)) ?_ ?_
      · rintro i x T0 σ H2 hx hT ⟨s2, m, u, v, rfl⟩
        obtain ⟨y, rfl⟩ := cut_ints hx
        lcg_src
        exact ⟨s2.trans (same_new hT), _, _, _, rfl⟩
      · rintro σ H2 ⟨s2, m, u, v, rfl⟩
        have s3 : Same H' H2 := (same_new hl).trans s2
        lcg_src
        refine rd_pow ⟨by decide, by decide, by decide⟩ ?_
        lcg_src
        refine ifD (fun c => ?_) (fun c => ?_)
        · lcg_src
          intro p hp
          exact k _ _ _ _ _ (s3.trans (same_new hp)) (s3.free hp) (by decide) (by decide) upd_same
        · lcg_src
          intro p hp
          have e : (10 : Int) ^ Int.toNat 18 = 10 ^ 18 := rfl
          rw [e] at c
          exact k _ _ _ _ _ (s3.trans (same_new hp)) (s3.free hp) (by omega) (by omega) upd_same
theorem bag_ok {H : Hp} {sc : Addr} {ns : List Int} {at_ salt : Int} {Q : VK} {E : XK} (hS : SqL K H sc (ns.map V.int)) (h0 : 0 ≤ at_) (h1 : at_ < 100) (hl : ns.length ≤ 63) (k : ∀ b F H', Same H F → Bag3 F H' b → Q (.ref b) H') : sp_law_bag K [.ref sc, .int at_, .int salt] H Q E := by
  refine ⟨sc, ns, at_, salt, rfl, hS, h0, h1, hl, fun p d m c H' s n c0 c1 e => k p H H' (Same.refl _) ⟨s, n, d, m, c, c0, c1, e⟩⟩
/-- one of a list's items -/
def sp_law_of (K : PySem.W.Frag) : Sp := fun vs H Q _ => ∃ (F : Hp) (b l : Addr) (xs : List V), vs = [.ref b, .ref l] ∧ Bag3 F H b ∧ SqL K F l xs ∧ 0 < xs.length ∧ xs.length < 1000 ∧
  ∀ (i : Nat) (x : V) H', xs[i]? = some x → Grow [b] F H F H' → Bag3 F H' b → Q x H'
theorem ok_law_of (T : Txt K mg a) : FnOk P w K mg base CX0 2 a.f_law_of a.fd_law_of ["_law_bag_here", "_law_some"]  (sp_law_of K) := by
  refine T.F_law_of.ok sc_law_of (fun vs H Q E h => ?_) (fun cdv A outer s H vs Q E hr h => ?_)
  · obtain ⟨_, _, _, _, rfl, _⟩ := h
    rfl
  · obtain ⟨F, b, l, xs, rfl, hb, hl, h0, h1, k⟩ := h
    have hlH : SqL K H l xs := hb.fh.seq hl
    refine ⟨_, ((pss_one (ps_ret (pe_ix ix_list (pv 1) (pe_call (ok_law_take T) hr rfl T.g_law_take T.F_law_take.kp T.b_law_take .nil pass0 (pa_cons (pv 0) (pa_cons (pe_callB call_lenSeq (by rfl) T.n_len (by decide +kernel) (pa_cons (pv 1) pa_nil)) pa_nil))) (fun _ _ => rfl))))), ?_⟩
    try simp only [cxK]
    lcg_src
    refine take_ok hb (by omega) (by omega) fun r H1 hr1 g1 hb1 => ?_
    have hr2 : r < xs.length := by omega
    have e : xs[r]? = some xs[r] := List.getElem?_eq_getElem hr2
    refine rd_ixL (hb1.fh.seq hl) (atI_at e) ?_
    exact k r _ H1 e g1 hb1
end
theorem wd_dpAll {K : PySem.W.Frag} {F : Hp} (ws : List (List Nat)) : DpAll K F (ws.map wd) (ws.map wdD) := wd_dp ws
section
variable {K : PySem.W.Frag}
/-- one of some texts -/
theorem of_words {F H : Hp} {b : Addr} {l : Addr} {ws : List (List Nat)} {Q : VK} {E : XK} (hb : Bag3 F H b) (hl : F l = some (.lst (ws.map wd))) (h0 : 0 < ws.length) (h1 : ws.length < 1000) (k : ∀ x H', x ∈ ws → Grow [b] F H F H' → Bag3 F H' b → Q (.str (tx x)) H') : sp_law_of K [.ref b, .ref l] H Q E := by
  refine ⟨F, b, l, _, rfl, hb, sqL_of hl, by simpa using h0, by simpa using h1, fun i x H' e g h => ?_⟩
  rw [List.getElem?_map] at e
  cases hx : ws[i]? with
  | none => rw [hx] at e; cases e
  | some y =>
    rw [hx] at e
    cases e
    exact k y H' (List.mem_of_getElem? hx) g h
end
end Lb

set_option maxHeartbeats 8000000
namespace Lb
open PySem L2 Hk
local macro_rules | `(tactic| array_mem_dec) => `(tactic| with_reducible first
  | assumption | exact upd_same
  | (apply upd_new; assumption; array_mem_dec)
  | (apply upd_old; tlg_ne; array_mem_dec)
  | (apply same_at; assumption; array_mem_dec))
local macro_rules | `(tactic| tlg_ne) => `(tactic| with_reducible first
  | assumption | (apply Ne.symm; assumption)
  | (apply ne_new; assumption; array_mem_dec) | (apply ne_new'; assumption; array_mem_dec)
  | (apply ne_of; assumption; assumption; (with_unfolding_all (intro z; cases z; done))))
local macro_rules | `(tactic| decreasing_trivial_pre_omega) => `(tactic| with_reducible first
  | assumption | (apply sqL_of; array_mem_dec) | (apply sqT_of; array_mem_dec)
  | (apply Same.seq; assumption; decreasing_trivial_pre_omega) | (apply sqT_same; assumption; decreasing_trivial_pre_omega)
  | (apply sqL_new; assumption; decreasing_trivial_pre_omega) | (apply sqL_upd; tlg_ne; decreasing_trivial_pre_omega))
local macro_rules | `(tactic| kpt_turns) => `(tactic| with_reducible first
  | assumption | exact Same.refl _ | (apply same_ext; kpt_turns; assumption) | (apply same_mut; kpt_turns; keq_hits) | (apply same_step; assumption; kpt_turns))
local macro_rules | `(tactic| keq_hits) => `(tactic| with_reducible first | assumption | (apply same_none; assumption; keq_hits))
local macro_rules | `(tactic| sizeOf_list_dec) => `(tactic| first | (with_reducible assumption) | (with_reducible_and_instances omega) | (with_unfolding_all decide))
local macro_rules | `(tactic| array_get_dec) => `(tactic| first | (with_reducible assumption) | (apply sz_of; (with_unfolding_all simp); done) | (apply sz_of; omega) | (apply sz_lt; (with_unfolding_all simp); done) | (apply sz_lt; omega))
local macro_rules | `(tactic| keq_rows) => `(tactic| with_reducible first
  | apply rd_asgN | apply rd_seq | apply rd_parA | apply rd_par3A | apply rd_par2 | apply rd_par3 | apply rd_m1 | apply rd_isStr | apply rd_cval | apply rd_asg | apply rd_gname | apply rd_op | (show tVar _ _ _ _; refine rd_var (by with_unfolding_all rfl) ?_) | apply rd_c | apply rd_I0
  | apply rd_cons | apply rd_nil | apply rd_cb | apply rd_test | apply rd_bl | apply rd_fld | apply rd_drop | apply rd_ret | apply rd_retN | apply rd_next
  | apply rd_ifS | apply rd_un | apply rd_B | apply rd_and | apply rd_or | apply rd_not | apply rd_andV | apply rd_orV | apply rd_notV | apply rd_if
  | apply rd_int | apply rd_abs | apply rd_max | apply rd_min | apply rd_strS | apply rd_U
  | apply rd_eqTx | apply rd_neTx | apply rd_inTx | apply rd_notInTx | apply rd_fmt | (show FmtK (.str (tx _)) _ _; refine rd_fmtT (by omega) ?_) | apply rd_jsC | apply rd_jsN | (show JsK _ (tx _) _ (.str (tx _)) _ _; refine rd_JsK (by first | omega | (simp; done) | (simp; omega)) ?_) | (show rAddStr (.str (tx _)) (.str (tx _)) _ _; refine rd_addT (by first | omega | (simp; done) | (simp; omega)) ?_) | (show rLenStr [.str (tx _)] _ _; refine rd_lenTx (by omega) ?_)
  | (show rEq _ _ _ _; refine rd_eq (by with_unfolding_all rfl) ?_) | (show rNe _ _ _ _; refine rd_ne (by with_unfolding_all rfl) ?_) | apply rd_isNone | apply rd_notNone
  | (show rIxL _ _ _ _ _; refine rd_ixL (by decreasing_trivial_pre_omega) (by with_unfolding_all rfl) ?_) | (show rIxT _ _ _ _ _; refine rd_ixT (by decreasing_trivial_pre_omega) (by with_unfolding_all rfl) ?_)
  | (show rLenSeq _ _ _ _; refine rd_lenL (by decreasing_trivial_pre_omega) ?_) | (show rLenSeq _ _ _ _; refine rd_lenT (by decreasing_trivial_pre_omega) ?_)
  | (show rI _ _ _ _ _ _; refine rd_mod (by sizeOf_list_dec) ?_) | (show rI _ _ _ _ _ _; refine rd_div (by sizeOf_list_dec) (by sizeOf_list_dec) ?_) | (show rI _ _ _ _ _ _; refine rd_mulR (by sizeOf_list_dec) (by sizeOf_list_dec) ?_) | (show rI _ _ _ _ _ _; refine rd_mulL (by sizeOf_list_dec) (by sizeOf_list_dec) ?_) | (show rI _ _ _ _ _ _; refine rd_pow (by sizeOf_list_dec) ?_)
  | (show rSetL _ _ _ _ _; refine rd_setL (by array_mem_dec) (by with_unfolding_all rfl) ?_)
  | apply rd_inSign | apply rd_notInSign | apply rd_tupK | apply rd_lstK | apply rd_sl | apply rd_noPart | apply rd_part | apply rd_isInt
  | apply rd_gsub | apply rd_gcons | apply rd_gnil | apply rd_call | apply rd_meth | apply rd_make | apply rd_smeth | apply rd_isC | apply rd_smethK | apply rd_cmeth | apply rd_cmethK
  | apply rd_bm | apply rd_bm0 | (show BmK _ _ _ _ _ _ _ _; refine rd_bmL (by array_mem_dec) ?_) | (show Bm0K _ _ _ _ _ _; refine rd_bm0L (by array_mem_dec) ?_) | apply rd_sfld | apply rd_aug | apply rd_rAdd | apply rd_brk | apply rd_cont
  | apply rd_for | apply rd_iList | (show IList _ _ _ _; refine rd_IList (by decreasing_trivial_pre_omega) ?_) | apply rd_iTup | (show ITup _ _ _ _; refine rd_ITup (by decreasing_trivial_pre_omega) ?_) | apply rd_iEnum | (show IEnum _ _ _ _; refine rd_IEnum (by decreasing_trivial_pre_omega) ?_) | apply rd_iRng1 | (show IRng1 _ _ _; refine rd_IRng1 (by sizeOf_list_dec) (by sizeOf_list_dec) ?_)
  | (show rLenStr _ _ _; refine rd_lenS (by array_get_dec) ?_) | (show rAddStr _ _ _ _; refine rd_addS (by array_get_dec) ?_) | (show rSlS _ _ _ _ _; refine rd_slS (by array_get_dec) ?_) | apply rd_lc | apply rd_yes | (show gTup _ _ _ _ _ _ _; refine rd_gtup (by decreasing_trivial_pre_omega) (by with_unfolding_all rfl) ?_) | (show tMakeL _ _ _ _ _ _ _ _; refine rd_makeL (by with_unfolding_all rfl) ?_))
local macro_rules | `(tactic| kas_types) => `(tactic| with_reducible first | apply rd_isi_int_int | apply rd_isi_int_bool | apply rd_isi_int_str | apply rd_isi_int_list | apply rd_isi_int_tuple | apply rd_isi_bool_int | apply rd_isi_bool_bool | apply rd_isi_bool_str | apply rd_isi_bool_list | apply rd_isi_bool_tuple | apply rd_isi_str_int | apply rd_isi_str_bool | apply rd_isi_str_str | apply rd_isi_str_list | apply rd_isi_str_tuple | (show rIsi _ _ _ _; refine rd_isi_list_int (by array_mem_dec) ?_) | (show rIsi _ _ _ _; refine rd_isi_list_bool (by array_mem_dec) ?_) | (show rIsi _ _ _ _; refine rd_isi_list_str (by array_mem_dec) ?_) | (show rIsi _ _ _ _; refine rd_isi_list_list (by array_mem_dec) ?_) | (show rIsi _ _ _ _; refine rd_isi_list_tuple (by array_mem_dec) ?_) | (show rIsi _ _ _ _; refine rd_isi_tuple_int (by array_mem_dec) ?_) | (show rIsi _ _ _ _; refine rd_isi_tuple_bool (by array_mem_dec) ?_) | (show rIsi _ _ _ _; refine rd_isi_tuple_str (by array_mem_dec) ?_) | (show rIsi _ _ _ _; refine rd_isi_tuple_list (by array_mem_dec) ?_) | (show rIsi _ _ _ _; refine rd_isi_tuple_tuple (by array_mem_dec) ?_) | apply rd_isi_NoneType_int | apply rd_isi_NoneType_bool | apply rd_isi_NoneType_str | apply rd_isi_NoneType_list | apply rd_isi_NoneType_tuple)
local macro_rules | `(tactic| lcg_src) => `(tactic| repeat keq_rows)

local macro_rules | `(tactic| lcg_sub) => `(tactic| with_reducible first | apply rd_chain | apply rd_iStr | apply rd_IStr | apply rd_kdI | apply rd_dc)
local macro_rules | `(tactic| lcg_off) => `(tactic| repeat (first | keq_rows | lcg_sub))
theorem lets_tx : Str.ofString "abcdefghijklmnopqrstuvwxyz" = tx lets := by decide +kernel
theorem caps_tx : Str.ofString "ABCDEFGHIJKLMNOPQRSTUVWXYZ" = tx caps := by decide +kernel
theorem rd_drop1 {x : Nat} {r : List Nat} {H : Hp} {Q : VK} (hz : (x :: r).length ≤ 100000) (q : Q (.str (tx r)) H) : rSlS (.str (tx (x :: r))) (some 1) none H Q := by
  refine rd_slS (by rw [tx_len]; exact sz_of hz) ?_
  have e : cutS (tx (x :: r)) (some ((1 : Nat) : Int)) none = tx r := by
    unfold cutS
    rw [tx_len, HT.sIx_none, HT.sIx_nat, Nat.min_eq_left (by simp)]
    have e2 : ((tx (x :: r)).cps.toList.drop 1).take ((x :: r).length - 1) = r := by
      show r.take ((x :: r).length - 1) = r
      rw [List.take_of_length_le (by simp)]
    rw [e2]
    rfl
  rw [show (1 : Int) = ((1 : Nat) : Int) from rfl, e]
  exact q
section
variable {P : Program} {w : World} {K : PySem.W.Frag} {mg : Str → Option Value} {base : Heap} {a : Ad}
def sp_is_word : Sp := fun vs H Q _ => ∃ (F : Hp) (l : Wd), vs = [.str (tx l)] ∧ Same F H ∧ l.length ≤ 10000 ∧ ∀ F' H', Grow [] F H F' H' → Q (.bl (isWordB l)) H'
theorem ok_is_word (T : Txt K mg a) : FnOk P w K mg base CX0 1 a.f_is_word a.fd_is_word ["word"]  sp_is_word := by
  refine T.F_is_word.ok sc_is_word (fun vs H Q E h => ?_) (fun cdv A outer s H vs Q E hr h => ?_)
  · obtain ⟨_, _, rfl, _⟩ := h
    rfl
  · obtain ⟨F, l, rfl, fh, hl, k⟩ := h
    refine ⟨_, ((pss_cons (ps_if (PW.pt (pw_or (pt_not (pt_val (pe_callB call_isi (by rfl) T.n_isinstance (by decide +kernel) (pa_cons (pv 0) (pa_cons (pe_bltn (v := .ty "str") (by rfl) T.n_str (by decide +kernel) rfl) pa_nil))))) (pw_or1 (pt_not (pt_chain op_le op_le pe_int (pe_callB call_lenStr (by rfl) T.n_len (by decide +kernel) (pa_cons (pv 0) pa_nil)) (pe_glob (v := .int 8) rfl T.g_MOST_LETTERS ⟨_, rfl⟩))))))
 (pss_one (ps_ret pe_bl))
 pss_nil)
 (pss_one (ps_ret (pe_callB (cr_all rfl) (by rfl) T.n_all (by decide +kernel) (pa_cons (pe_lc (own := [("sign", 1)]) (g := gName 1) (tt := tYes) rfl sc_is_word.nd (pi_str (pv 0)) (blkOk_by (own := [("sign", 1)]) (N := ["word", "sign"]) (sc := defScope s_is_word) (by decide +kernel)) (fun _ _ _ _ _ => (pg_name (i := 1) sc_is_word.nd rfl (Or.inl rfl))) (fun _ _ _ _ _ => pts_nil) (fun _ _ _ _ _ => (pe_cmpR op_inSign (pv 1) (pe_glob (v := .str "abcdefghijklmnopqrstuvwxyz") rfl T.g_LETTERS ⟨_, rfl⟩) (by rfl)))) pa_nil)))))), ?_⟩
    try simp only [cxK, lets_tx]
    lcg_off
    kas_types
    lcg_off
    refine ifF rfl ?_
    lcg_off
    have hB : isWordB l = (decide (1 ≤ l.length ∧ l.length ≤ 8) && l.all fun c => decide (c ∈ lets)) := rfl
    refine ifD (fun c1 => ?_) (fun c1 => ?_)
    · lcg_off
      refine ifN (fun c2 => ?_) (fun c2 => ?_)
      · lcg_off
        have e : isWordB l = false := by
          rw [hB, decide_eq_false (by omega)]
          rfl
        rw [e] at k
        exact k F H (Grow.refl fh)
      · lcg_off
        refine lcPS (fun i F' acc => acc = ((l.take i).map fun c => decide (c ∈ lets)).map V.bl) fh (by omega) rfl (fun i F' acc e => ?_) (fun i F1 F2 acc _ e => e) (fun i c F1 H1 acc hc g1 hacc Done Kept hd hk => ?_) fun F' H' D acc g' nD hD hacc => ?_
        · rw [e, List.length_map, List.length_map, List.length_take]
          omega
        · lcg_off
          refine ⟨rfl, ?_⟩
          lcg_off
          refine iteT ?_
          lcg_off
          refine hk F1 H1 _ (Grow.refl g1.fh) ?_
          obtain ⟨h1, h2⟩ := List.getElem?_eq_some_iff.mp hc
          rw [List.take_succ_eq_append_getElem h1, hacc, h2]
          simp
        · rw [List.take_length] at hacc
          subst hacc
          lcg_off
          refine rd_all (sqL_of hD.h) ?_
          have e : isWordB l = (l.map fun c => decide (c ∈ lets)).all id := by
            rw [hB, decide_eq_true (by omega), Bool.true_and, List.all_map]
            rfl
          rw [e] at k
          exact k F' H' g'
    · lcg_off
      refine ifT rfl ?_
      lcg_off
      have e : isWordB l = false := by
        rw [hB, decide_eq_false (by omega)]
        rfl
      rw [e] at k
      exact k F H (Grow.refl fh)
def sp_is_class_name : Sp := fun vs H Q _ => ∃ (F : Hp) (l : Wd), vs = [.str (tx l)] ∧ Same F H ∧ l.length ≤ 10000 ∧ ∀ F' H', Grow [] F H F' H' → Q (.bl (isClassB l)) H'
theorem ok_is_class_name (T : Txt K mg a) : FnOk P w K mg base CX0 1 a.f_is_class_name a.fd_is_class_name ["word"]  sp_is_class_name := by
  refine T.F_is_class_name.ok sc_is_class_name (fun vs H Q E h => ?_) (fun cdv A outer s H vs Q E hr h => ?_)
  · obtain ⟨_, _, rfl, _⟩ := h
    rfl
  · obtain ⟨F, l, rfl, fh, hl, k⟩ := h
    refine ⟨_, ((pss_cons (ps_if (PW.pt (pw_or (pt_not (pt_val (pe_callB call_isi (by rfl) T.n_isinstance (by decide +kernel) (pa_cons (pv 0) (pa_cons (pe_bltn (v := .ty "str") (by rfl) T.n_str (by decide +kernel) rfl) pa_nil))))) (pw_or1 (pt_not (pt_chain op_le op_le pe_int (pe_callB call_lenStr (by rfl) T.n_len (by decide +kernel) (pa_cons (pv 0) pa_nil)) (pe_glob (v := .int 8) rfl T.g_MOST_LETTERS ⟨_, rfl⟩))))))
 (pss_one (ps_ret pe_bl))
 pss_nil)
 (pss_one (ps_ret (pe_and (pe_cmpR op_inSign (pe_ix ix_str (pv 0) pe_int (fun _ _ => rfl)) (pe_glob (v := .str "ABCDEFGHIJKLMNOPQRSTUVWXYZ") rfl T.g_CAPITALS ⟨_, rfl⟩) (by rfl)) (pe_one (pe_callB (cr_all rfl) (by rfl) T.n_all (by decide +kernel) (pa_cons (pe_lc (own := [("sign", 1)]) (g := gName 1) (tt := tYes) rfl sc_is_class_name.nd (pi_str (pe_slice sl_str (pv 0) (po_some pe_int) po_none)) (blkOk_by (own := [("sign", 1)]) (N := ["word", "sign"]) (sc := defScope s_is_class_name) (by decide +kernel)) (fun _ _ _ _ _ => (pg_name (i := 1) sc_is_class_name.nd rfl (Or.inl rfl))) (fun _ _ _ _ _ => pts_nil) (fun _ _ _ _ _ => (pe_cmpR op_inSign (pv 1) (pe_glob (v := .str "abcdefghijklmnopqrstuvwxyz") rfl T.g_LETTERS ⟨_, rfl⟩) (by rfl)))) pa_nil)))))))), ?_⟩
    try simp only [cxK, lets_tx, caps_tx]
    lcg_off
    kas_types
    lcg_off
    refine ifF rfl ?_
    lcg_off
    have hB : isClassB l = (decide (1 ≤ l.length ∧ l.length ≤ 8) && (decide (l.headD 0 ∈ caps) && (l.drop 1).all fun c => decide (c ∈ lets))) := rfl
    refine ifD (fun c1 => ?_) (fun c1 => ?_)
    · lcg_off
      refine ifN (fun c2 => ?_) (fun c2 => ?_)
      · lcg_off
        have e : isClassB l = false := by
          rw [hB, decide_eq_false (by omega)]
          rfl
        rw [e] at k
        exact k F H (Grow.refl fh)
      · obtain ⟨x, r, rfl⟩ : ∃ x r, l = x :: r := by
          cases l with
          | nil => simp at c1
          | cons x r => exact ⟨x, r, rfl⟩
        have hB2 : isClassB (x :: r) = (decide (x ∈ caps) && r.all fun c => decide (c ∈ lets)) := by
          rw [hB, decide_eq_true (by omega), Bool.true_and]
          rfl
        lcg_off
        refine rd_ixTx (i := 0) (c := x) (by omega) rfl ?_
        lcg_off
        refine ifB (fun c3 => ?_) (fun c3 => ?_)
        · lcg_off
          refine rd_drop1 (by omega) ?_
          lcg_off
          have hrl : r.length ≤ 10000 := by simp at hl; omega
          refine lcPS (l := r) (fun i F' acc => acc = ((r.take i).map fun c => decide (c ∈ lets)).map V.bl) fh (by omega) rfl (fun i F' acc e => ?_) (fun i F1 F2 acc _ e => e) (fun i c F1 H1 acc hc g1 hacc Done Kept hd hk => ?_) fun F' H' D acc g' nD hD hacc => ?_
          · rw [e, List.length_map, List.length_map, List.length_take]
            omega
          · lcg_off
            refine ⟨rfl, ?_⟩
            lcg_off
            refine iteT ?_
            lcg_off
            refine hk F1 H1 _ (Grow.refl g1.fh) ?_
            obtain ⟨h1, h2⟩ := List.getElem?_eq_some_iff.mp hc
            rw [List.take_succ_eq_append_getElem h1, hacc, h2]
            simp
          · rw [List.take_length] at hacc
            subst hacc
            lcg_off
            refine rd_all (sqL_of hD.h) ?_
            have e : isClassB (x :: r) = (r.map fun c => decide (c ∈ lets)).all id := by
              rw [hB2, c3, Bool.true_and, List.all_map]
              rfl
            rw [e] at k
            exact k F' H' g'
        · have e : isClassB (x :: r) = false := by
            rw [hB2, c3]
            rfl
          rw [e] at k
          exact k F H (Grow.refl fh)
    · lcg_off
      refine ifT rfl ?_
      lcg_off
      have e : isClassB l = false := by
        rw [hB, decide_eq_false (by omega)]
        rfl
      rw [e] at k
      exact k F H (Grow.refl fh)
theorem barred_eq : ([.str "by", .str "changes", .str "name", .str "of", .str "to", .str "world"] : List V) = barred.map wd := by decide +kernel
theorem binS_eq : ([.str "+", .str "-", .str "*", .str "//", .str "&", .str "|", .str "^", .str "<<", .str ">>"] : List V) = binS.map wd := by decide +kernel
theorem unS_eq : ([.str "neg", .str "pos", .str "abs", .str "invert"] : List V) = unS.map wd := by decide +kernel
theorem hooks_eq : ([.str "named", .str "call", .str "names", .str "renew", .str "copy"] : List V) = hooks.map wd := by decide +kernel
theorem Txt.barT (T : Txt K mg a) (H : Hp) : SqT K H a.a_BARRED (barred.map wd) := barred_eq ▸ T.q_BARRED H
theorem Txt.binT (T : Txt K mg a) (H : Hp) : SqT K H a.a_BINARY_SIGNS (binS.map wd) := binS_eq ▸ T.q_BINARY_SIGNS H
theorem Txt.unT (T : Txt K mg a) (H : Hp) : SqT K H a.a_UNARY_SIGNS (unS.map wd) := unS_eq ▸ T.q_UNARY_SIGNS H
theorem Txt.hookT (T : Txt K mg a) (H : Hp) : SqT K H a.a_HOOKS (hooks.map wd) := hooks_eq ▸ T.q_HOOKS H
def sp_is_field_name : Sp := fun vs H Q _ => ∃ (F : Hp) (l : Wd), vs = [.str (tx l)] ∧ Same F H ∧ l.length ≤ 10000 ∧ ∀ F' H', Grow [] F H F' H' → Q (.bl (isFieldB l)) H'
theorem ok_is_field_name (T : Txt K mg a) : FnOk P w K mg base CX0 2 a.f_is_field_name a.fd_is_field_name ["word"]  sp_is_field_name := by
  refine T.F_is_field_name.ok sc_is_field_name (fun vs H Q E h => ?_) (fun cdv A outer s H vs Q E hr h => ?_)
  · obtain ⟨_, _, rfl, _⟩ := h
    rfl
  · obtain ⟨F, l, rfl, fh, hl, k⟩ := h
    refine ⟨_, ((pss_one (ps_ret (pe_and (pe_call (ok_is_word T) hr rfl T.g_is_word T.F_is_word.kp T.b_is_word .nil pass0 (pa_cons (pv 0) pa_nil)) (pe_one (pe_cmpR op_notIn_seq (pv 0) (pe_glob (v := .ref _) rfl T.g_BARRED rfl) (by rfl))))))), ?_⟩
    try simp only [cxK]
    have hB : isFieldB l = (isWordB l && !decide (l ∈ barred)) := rfl
    lcg_off
    refine ⟨F, l, rfl, fh, hl, fun F1 H1 g1 => ?_⟩
    lcg_off
    refine ifB (fun c => ?_) (fun c => ?_)
    · lcg_off
      refine rd_notInWT (T.barT _) ?_
      rw [hB, c, Bool.true_and] at k
      exact k F1 H1 g1
    · rw [hB, c, Bool.false_and] at k
      exact k F1 H1 g1
def sp_arity_of : Sp := fun vs H Q _ => ∃ (l : Wd), vs = [.str (tx l)] ∧ Q (.int (arityN l : Nat)) H
theorem ok_arity_of (T : Txt K mg a) : FnOk P w K mg base CX0 1 a.f_arity_of a.fd_arity_of ["sign"]  sp_arity_of := by
  refine T.F_arity_of.ok sc_arity_of (fun vs H Q E h => ?_) (fun cdv A outer s H vs Q E hr h => ?_)
  · obtain ⟨_, rfl, _⟩ := h
    rfl
  · obtain ⟨l, rfl, k⟩ := h
    refine ⟨_, ((pss_cons (ps_if (pt_cmpR op_in_seq (pv 0) (pe_glob (v := .ref _) rfl T.g_BINARY_SIGNS rfl) (by rfl))
 (pss_one (ps_ret pe_int))
 pss_nil)
 (pss_one (ps_ret (pe_ifExp (pt_cmpR op_in_seq (pv 0) (pe_glob (v := .ref _) rfl T.g_UNARY_SIGNS rfl) (by rfl)) pe_int pe_int))))), ?_⟩
    try simp only [cxK]
    unfold arityN at k
    lcg_off
    refine rd_inWT (T.binT _) ?_
    lcg_off
    refine ifD (fun c => ?_) (fun c => ?_)
    · lcg_off
      rw [if_pos c] at k
      exact k
    · lcg_off
      refine rd_inWT (T.unT _) ?_
      lcg_off
      rw [if_neg c] at k
      refine ifD (fun c2 => ?_) (fun c2 => ?_)
      · lcg_off
        rw [if_pos c2] at k
        exact k
      · lcg_off
        rw [if_neg c2] at k
        exact k
theorem hook_tx : Str.ofString "hook" = tx wHook := by decide +kernel
theorem mk0_eq : ([.str "named", .str "call own", .str "names own", .str "bare own"] : List V) = mk0.map wd := by decide +kernel
theorem mk1_eq : ([.str "named", .str "call own", .str "names own", .str "renew own", .str "copy own", .str "bare own", .str "hook"] : List V) = mk1.map wd := by decide +kernel
theorem mk2_eq : ([.str "named", .str "call own", .str "call other", .str "call deeper", .str "call common", .str "names own", .str "names other", .str "names deeper", .str "names common", .str "renew own", .str "renew other", .str "renew deeper", .str "copy own", .str "copy other", .str "copy deeper", .str "bare own", .str "hook"] : List V) = mk2.map wd := by decide +kernel
theorem mkAll_len (n : Nat) : (mkAll n).length ≤ 17 := by
  unfold mkAll
  split
  · decide
  · split <;> decide
def sp_makers_for : Sp := fun vs H Q _ => ∃ (F : Hp) (n : Nat) (hk : Bool), vs = [.int (n : Nat), .bl hk] ∧ n ≤ 2 ∧ Same F H ∧ ∀ F' H' p, Grow [] F H F' H' → H p = none → Hold F' H' p (.lst ((mkFor n hk).map wd)) → Q (.ref p) H'
theorem ok_makers_for (T : Txt K mg a) : FnOk P w K mg base CX0 1 a.f_makers_for a.fd_makers_for ["arity", "has_hook"]  sp_makers_for := by
  refine T.F_makers_for.ok sc_makers_for (fun vs H Q E h => ?_) (fun cdv A outer s H vs Q E hr h => ?_)
  · obtain ⟨_, _, _, rfl, _⟩ := h
    rfl
  · obtain ⟨F, n, hk, rfl, hn, fh, k⟩ := h
    refine ⟨_, ((pss_one (ps_ret (pe_lc (own := [("maker", 2)]) (g := gName 2) rfl sc_makers_for.nd (pi_tup (pe_kdI T.dk_MAKERS (pe_glob (v := .ref _) rfl T.g_MAKERS rfl) (pv 0) (fun _ _ => rfl))) (blkOk_by (own := [("maker", 2)]) (N := ["arity", "has_hook", "maker"]) (sc := defScope s_makers_for) (by decide +kernel)) (fun _ _ _ _ _ => (pg_name (i := 2) sc_makers_for.nd rfl (Or.inl rfl))) (fun _ _ _ _ _ => (pts_one (PW.pt (pw_or (pt_val (pv 1)) (pw_or1 (pt_cmpR op_ne (pv 2) pe_str (nomark _))))))) (fun _ _ _ _ _ => (pv 2)))))), ?_⟩
    try simp only [cxK, hook_tx]
    obtain ⟨t, ht, hq⟩ : ∃ t, ([(0, a.a_MAKERS_0), (1, a.a_MAKERS_1), (2, a.a_MAKERS_2)] : List (Int × Addr)).lookup (n : Int) = some t ∧ ∀ H, SqT K H t ((mkAll n).map wd) := by
      rcases (show n = 0 ∨ n = 1 ∨ n = 2 by omega) with rfl | rfl | rfl
      · exact ⟨_, rfl, fun H => mk0_eq ▸ T.q_MAKERS_0 H⟩
      · exact ⟨_, rfl, fun H => mk1_eq ▸ T.q_MAKERS_1 H⟩
      · exact ⟨_, rfl, fun H => mk2_eq ▸ T.q_MAKERS_2 H⟩
    have hml := mkAll_len n
    lcg_off
    refine ⟨_, t, rfl, rfl, ht, ?_⟩
    refine rd_ITup (hq H) ?_
    refine lcPT (xs := (mkAll n).map wd) (fun j F' acc => acc = (((mkAll n).take j).filter fun m => hk || !decide (m = wHook)).map wd) fh (hq F) (by rw [List.length_map]; omega) rfl (fun j F' acc e => ?_) (fun j F1 F2 acc _ e => e) (fun j v F5 H5 acc hj hv g5 hacc Done Kept hd hkp => ?_) fun F5 H5 D acc g5 hD5 h5 hacc => ?_
    · rw [e, List.length_map]
      refine Nat.le_trans (List.length_filter_le _ _) ?_
      rw [List.length_take]
      omega
    · rw [List.getElem?_map] at hv
      cases hc : (mkAll n)[j]? with
      | none => rw [hc] at hv; cases hv
      | some s1 =>
        rw [hc] at hv
        obtain rfl : V.str (tx s1) = v := Option.some.inj hv
        have fin : (hk || !decide (s1 = wHook)) = true → Kept (.str (tx s1)) H5 := fun c => by
          refine hkp F5 H5 _ (Grow.refl g5.fh) ?_
          rw [filter_take_succ _ hc, c, hacc]
          simp [wd]
        have fin2 : (hk || !decide (s1 = wHook)) = false → Done H5 := fun c => by
          refine hd F5 H5 (Grow.refl g5.fh) ?_
          rw [filter_take_succ _ hc, c, hacc]
          simp
        lcg_off
        refine ⟨rfl, ?_⟩
        lcg_off
        refine ifB (fun c => ?_) (fun c => ?_)
        · lcg_off
          first
            | exact fin (by rw [c]; rfl)
            | (refine iteT ?_; lcg_off; exact fin (by rw [c]; rfl))
        · lcg_off
          refine ifB (fun c2 => ?_) (fun c2 => ?_)
          · lcg_off
            exact fin (by rw [c, c2]; rfl)
          · exact fin2 (by rw [c, c2]; rfl)
    · rw [List.length_map, List.take_length] at hacc
      subst hacc
      exact k F5 H5 D g5 hD5 h5
end
end Lb

namespace Lb
open PySem L2 Hk
def fD (v0 v1 v2 v3 v4 : V) : List (Str × V) := [("name", v0), ("parts", v1), ("keeping", v2), ("root_hook", v3), ("rows", v4)]
theorem fD_name {v0 v1 v2 v3 v4 : V} : (fD v0 v1 v2 v3 v4).lookup ("name" : Str) = some v0 := by
  unfold fD
  rw [List.lookup_cons_self]
theorem fD_parts {v0 v1 v2 v3 v4 : V} : (fD v0 v1 v2 v3 v4).lookup ("parts" : Str) = some v1 := by
  unfold fD
  rw [List.lookup_cons, show (("parts" : Str) == "name") = false by decide +kernel, List.lookup_cons_self]
theorem fD_keeping {v0 v1 v2 v3 v4 : V} : (fD v0 v1 v2 v3 v4).lookup ("keeping" : Str) = some v2 := by
  unfold fD
  rw [List.lookup_cons, show (("keeping" : Str) == "name") = false by decide +kernel, List.lookup_cons, show (("keeping" : Str) == "parts") = false by decide +kernel, List.lookup_cons_self]
theorem fD_root_hook {v0 v1 v2 v3 v4 : V} : (fD v0 v1 v2 v3 v4).lookup ("root_hook" : Str) = some v3 := by
  unfold fD
  rw [List.lookup_cons, show (("root_hook" : Str) == "name") = false by decide +kernel, List.lookup_cons, show (("root_hook" : Str) == "parts") = false by decide +kernel, List.lookup_cons, show (("root_hook" : Str) == "keeping") = false by decide +kernel, List.lookup_cons_self]
theorem fD_rows {v0 v1 v2 v3 v4 : V} : (fD v0 v1 v2 v3 v4).lookup ("rows" : Str) = some v4 := by
  unfold fD
  rw [List.lookup_cons, show (("rows" : Str) == "name") = false by decide +kernel, List.lookup_cons, show (("rows" : Str) == "parts") = false by decide +kernel, List.lookup_cons, show (("rows" : Str) == "keeping") = false by decide +kernel, List.lookup_cons, show (("rows" : Str) == "root_hook") = false by decide +kernel, List.lookup_cons_self]
theorem fD_put_name {v0 v1 v2 v3 v4 u : V} : putF "name" u (fD v0 v1 v2 v3 v4) = fD u v1 v2 v3 v4 := by
  show (if ("name" : Str) = "name" then (("name" : Str), u) :: [(("parts" : Str), v1), (("keeping" : Str), v2), (("root_hook" : Str), v3), (("rows" : Str), v4)] else _) = _
  rw [if_pos rfl]
  rfl
theorem fD_put_parts {v0 v1 v2 v3 v4 u : V} : putF "parts" u (fD v0 v1 v2 v3 v4) = fD v0 u v2 v3 v4 := by
  show (if ("name" : Str) = "parts" then _ else (("name" : Str), v0) :: (if ("parts" : Str) = "parts" then (("parts" : Str), u) :: [(("keeping" : Str), v2), (("root_hook" : Str), v3), (("rows" : Str), v4)] else _)) = _
  rw [if_neg (by decide +kernel), if_pos rfl]
  rfl
theorem fD_put_keeping {v0 v1 v2 v3 v4 u : V} : putF "keeping" u (fD v0 v1 v2 v3 v4) = fD v0 v1 u v3 v4 := by
  show (if ("name" : Str) = "keeping" then _ else (("name" : Str), v0) :: (if ("parts" : Str) = "keeping" then _ else (("parts" : Str), v1) :: (if ("keeping" : Str) = "keeping" then (("keeping" : Str), u) :: [(("root_hook" : Str), v3), (("rows" : Str), v4)] else _))) = _
  rw [if_neg (by decide +kernel), if_neg (by decide +kernel), if_pos rfl]
  rfl
theorem fD_put_root_hook {v0 v1 v2 v3 v4 u : V} : putF "root_hook" u (fD v0 v1 v2 v3 v4) = fD v0 v1 v2 u v4 := by
  show (if ("name" : Str) = "root_hook" then _ else (("name" : Str), v0) :: (if ("parts" : Str) = "root_hook" then _ else (("parts" : Str), v1) :: (if ("keeping" : Str) = "root_hook" then _ else (("keeping" : Str), v2) :: (if ("root_hook" : Str) = "root_hook" then (("root_hook" : Str), u) :: [(("rows" : Str), v4)] else _)))) = _
  rw [if_neg (by decide +kernel), if_neg (by decide +kernel), if_neg (by decide +kernel), if_pos rfl]
  rfl
theorem fD_put_rows {v0 v1 v2 v3 v4 u : V} : putF "rows" u (fD v0 v1 v2 v3 v4) = fD v0 v1 v2 v3 u := by
  show (if ("name" : Str) = "rows" then _ else (("name" : Str), v0) :: (if ("parts" : Str) = "rows" then _ else (("parts" : Str), v1) :: (if ("keeping" : Str) = "rows" then _ else (("keeping" : Str), v2) :: (if ("root_hook" : Str) = "rows" then _ else (("root_hook" : Str), v3) :: (if ("rows" : Str) = "rows" then (("rows" : Str), u) :: [] else _))))) = _
  rw [if_neg (by decide +kernel), if_neg (by decide +kernel), if_neg (by decide +kernel), if_neg (by decide +kernel), if_pos rfl]
  rfl
theorem fD_no {m : Str} {v0 v1 v2 v3 v4 : V} (h0 : (m == ("name" : Str)) = false) (h1 : (m == ("parts" : Str)) = false) (h2 : (m == ("keeping" : Str)) = false) (h3 : (m == ("root_hook" : Str)) = false) (h4 : (m == ("rows" : Str)) = false) : (fD v0 v1 v2 v3 v4).lookup m = none := by
  unfold fD
  rw [List.lookup_cons, h0, List.lookup_cons, h1, List.lookup_cons, h2, List.lookup_cons, h3, List.lookup_cons, h4]
  rfl
theorem fD_new0 {v0 : V} : putF "name" v0 [] = [(("name" : Str), v0)] := by
  show putF "name" v0 [] = _
  rfl
theorem fD_new1 {v0 v1 : V} : putF "parts" v1 [(("name" : Str), v0)] = [(("name" : Str), v0), (("parts" : Str), v1)] := by
  show (if ("name" : Str) = "parts" then _ else (("name" : Str), v0) :: putF "parts" v1 []) = _
  rw [if_neg (by decide +kernel)]
  rfl
theorem fD_new2 {v0 v1 v2 : V} : putF "keeping" v2 [(("name" : Str), v0), (("parts" : Str), v1)] = [(("name" : Str), v0), (("parts" : Str), v1), (("keeping" : Str), v2)] := by
  show (if ("name" : Str) = "keeping" then _ else (("name" : Str), v0) :: (if ("parts" : Str) = "keeping" then _ else (("parts" : Str), v1) :: putF "keeping" v2 [])) = _
  rw [if_neg (by decide +kernel), if_neg (by decide +kernel)]
  rfl
theorem fD_new3 {v0 v1 v2 v3 : V} : putF "root_hook" v3 [(("name" : Str), v0), (("parts" : Str), v1), (("keeping" : Str), v2)] = [(("name" : Str), v0), (("parts" : Str), v1), (("keeping" : Str), v2), (("root_hook" : Str), v3)] := by
  show (if ("name" : Str) = "root_hook" then _ else (("name" : Str), v0) :: (if ("parts" : Str) = "root_hook" then _ else (("parts" : Str), v1) :: (if ("keeping" : Str) = "root_hook" then _ else (("keeping" : Str), v2) :: putF "root_hook" v3 []))) = _
  rw [if_neg (by decide +kernel), if_neg (by decide +kernel), if_neg (by decide +kernel)]
  rfl
theorem fD_new4 {v0 v1 v2 v3 v4 : V} : putF "rows" v4 [(("name" : Str), v0), (("parts" : Str), v1), (("keeping" : Str), v2), (("root_hook" : Str), v3)] = [(("name" : Str), v0), (("parts" : Str), v1), (("keeping" : Str), v2), (("root_hook" : Str), v3), (("rows" : Str), v4)] := by
  show (if ("name" : Str) = "rows" then _ else (("name" : Str), v0) :: (if ("parts" : Str) = "rows" then _ else (("parts" : Str), v1) :: (if ("keeping" : Str) = "rows" then _ else (("keeping" : Str), v2) :: (if ("root_hook" : Str) = "rows" then _ else (("root_hook" : Str), v3) :: putF "rows" v4 [])))) = _
  rw [if_neg (by decide +kernel), if_neg (by decide +kernel), if_neg (by decide +kernel), if_neg (by decide +kernel)]
  rfl
section
variable {K : PySem.W.Frag} {mg : Str → Option Value} {a : Ad} {H : Hp} {Q : VK} {p dx : Addr} {v0 v1 v2 v3 v4 : V} {σ : L2.St}
theorem fldD_name (T : Txt K mg a) (e : H p = some (.ins a.C_LibraryDraft dx (fD v0 v1 v2 v3 v4))) (k : Q v0 H) : FldK K "name" (.ref p) H Q := rd_fldK e T.cl_LibraryDraft T.no_LibraryDraft_name fD_name k
theorem fldD_parts (T : Txt K mg a) (e : H p = some (.ins a.C_LibraryDraft dx (fD v0 v1 v2 v3 v4))) (k : Q v1 H) : FldK K "parts" (.ref p) H Q := rd_fldK e T.cl_LibraryDraft T.no_LibraryDraft_parts fD_parts k
theorem fldD_keeping (T : Txt K mg a) (e : H p = some (.ins a.C_LibraryDraft dx (fD v0 v1 v2 v3 v4))) (k : Q v2 H) : FldK K "keeping" (.ref p) H Q := rd_fldK e T.cl_LibraryDraft T.no_LibraryDraft_keeping fD_keeping k
theorem fldD_root_hook (T : Txt K mg a) (e : H p = some (.ins a.C_LibraryDraft dx (fD v0 v1 v2 v3 v4))) (k : Q v3 H) : FldK K "root_hook" (.ref p) H Q := rd_fldK e T.cl_LibraryDraft T.no_LibraryDraft_root_hook fD_root_hook k
theorem fldD_rows (T : Txt K mg a) (e : H p = some (.ins a.C_LibraryDraft dx (fD v0 v1 v2 v3 v4))) (k : Q v4 H) : FldK K "rows" (.ref p) H Q := rd_fldK e T.cl_LibraryDraft T.no_LibraryDraft_rows fD_rows k
theorem methD {m : Str} {sp : Sp} {E : XK} {tt : TA} (e : H p = some (.ins a.C_LibraryDraft dx (fD v0 v1 v2 v3 v4))) (h0 : (m == ("name" : Str)) = false) (h1 : (m == ("parts" : Str)) = false) (h2 : (m == ("keeping" : Str)) = false) (h3 : (m == ("root_hook" : Str)) = false) (h4 : (m == ("rows" : Str)) = false) (q : tt σ H fun vs H2 => sp (.ref p :: (vs ++ [])) H2 Q E) : MethK a.C_LibraryDraft m sp E tt σ (.ref p) H Q := rd_methK e (fD_no h0 h1 h2 h3 h4) q
end

def hookV : Option Wd → V
  | none => .non
  | some h => .str (tx h)
def keepD (q : Wd × Wd) : PyData := .tuple [wdD q.1, wdD q.2]
def rowD (r : Row3) : PyData := .tuple [wdD r.sign, .tuple (r.changed.map wdD), wdD r.maker]
/-- a draft stands at p, made behind the heap H0 with the frozen part F0 -/
structure DAt (a : Ad) (K : PySem.W.Frag) (F0 H0 F H : Hp) (p dx pp pk pr : Addr) (d : Draft) : Prop where
  gr : Grow [] F0 H0 F H
  np : H0 p = none
  npp : H0 pp = none
  npk : H0 pk = none
  npr : H0 pr = none
  n1 : pp ≠ pk
  n2 : pp ≠ pr
  n3 : pk ≠ pr
  me : Hold F H p (.ins a.C_LibraryDraft dx (fD (.str (tx d.name)) (.ref pp) (.ref pk) (hookV d.hook) (.ref pr)))
  pa : Hold F H pp (.lst (d.parts.map wd))
  ke : ∃ ks, Hold F H pk (.lst ks) ∧ DpAll K F ks (d.keeping.map keepD)
  ro : ∃ rs, Hold F H pr (.lst rs) ∧ DpAll K F rs (d.rows.map rowD)
  wf : d.Wf
theorem Grow.ofSame' {F H H' : Hp} (fh : Same F H) (s : Same H H') : Grow [] F H F H' := ⟨Same.refl _, fh.trans s, fun c o _ e => s c o e, fun c a b => ⟨a, same_nn s b⟩⟩
section
variable {a : Ad} {K : PySem.W.Frag} {F0 H0 F H F' H' : Hp} {p dx pp pk pr : Addr} {d : Draft}
theorem DAt.m1 (h : DAt a K F0 H0 F H p dx pp pk pr d) : p ≠ pp := ne_of h.me.h h.pa.h (by intro z; cases z)
theorem DAt.m2 (h : DAt a K F0 H0 F H p dx pp pk pr d) : p ≠ pk := by
  obtain ⟨xs, h1, _⟩ := h.ke
  exact ne_of h.me.h h1.h (by intro z; cases z)
theorem DAt.m3 (h : DAt a K F0 H0 F H p dx pp pk pr d) : p ≠ pr := by
  obtain ⟨xs, h1, _⟩ := h.ro
  exact ne_of h.me.h h1.h (by intro z; cases z)
/-- something new beside it -/
theorem DAt.beside (h : DAt a K F0 H0 F H p dx pp pk pr d) (g : Grow [] F H F' H') : DAt a K F0 H0 F' H' p dx pp pk pr d := by
  obtain ⟨xs, h1, h2⟩ := h.ke
  obtain ⟨ys, h3, h4⟩ := h.ro
  exact ⟨h.gr.trans g, h.np, h.npp, h.npk, h.npr, h.n1, h.n2, h.n3, h.me.go0 g, h.pa.go0 g, ⟨xs, h1.go0 g, h2.mono g.ff⟩, ⟨ys, h3.go0 g, h4.mono g.ff⟩, h.wf⟩
theorem DAt.setName (h : DAt a K F0 H0 F H p dx pp pk pr d) {n : Wd} (w : ({ d with name := n } : Draft).Wf) :
    DAt a K F0 H0 F (upd H p (.ins a.C_LibraryDraft dx (fD (.str (tx n)) (.ref pp) (.ref pk) (hookV d.hook) (.ref pr)))) p dx pp pk pr { d with name := n } := by
  obtain ⟨xs, h1, h2⟩ := h.ke
  obtain ⟨ys, h3, h4⟩ := h.ro
  exact ⟨h.gr.mut h.me.f (.inr h.np), h.np, h.npp, h.npk, h.npr, h.n1, h.n2, h.n3, h.me.put, h.pa.other h.m1.symm, ⟨xs, h1.other h.m2.symm, h2⟩, ⟨ys, h3.other h.m3.symm, h4⟩, w⟩
theorem DAt.setHook (h : DAt a K F0 H0 F H p dx pp pk pr d) {n : Wd} (w : ({ d with hook := some n } : Draft).Wf) :
    DAt a K F0 H0 F (upd H p (.ins a.C_LibraryDraft dx (fD (.str (tx d.name)) (.ref pp) (.ref pk) (.str (tx n)) (.ref pr)))) p dx pp pk pr { d with hook := some n } := by
  obtain ⟨xs, h1, h2⟩ := h.ke
  obtain ⟨ys, h3, h4⟩ := h.ro
  exact ⟨h.gr.mut h.me.f (.inr h.np), h.np, h.npp, h.npk, h.npr, h.n1, h.n2, h.n3, h.me.put, h.pa.other h.m1.symm, ⟨xs, h1.other h.m2.symm, h2⟩, ⟨ys, h3.other h.m3.symm, h4⟩, w⟩
theorem DAt.addPart (h : DAt a K F0 H0 F H p dx pp pk pr d) {n : Wd} (w : ({ d with parts := d.parts ++ [n] } : Draft).Wf) :
    DAt a K F0 H0 F (upd H pp (.lst (d.parts.map wd ++ [.str (tx n)]))) p dx pp pk pr { d with parts := d.parts ++ [n] } := by
  obtain ⟨xs, h1, h2⟩ := h.ke
  obtain ⟨ys, h3, h4⟩ := h.ro
  refine ⟨h.gr.mut h.pa.f (.inr h.npp), h.np, h.npp, h.npk, h.npr, h.n1, h.n2, h.n3, h.me.other h.m1, ?_, ⟨xs, h1.other h.n1.symm, h2⟩, ⟨ys, h3.other h.n2.symm, h4⟩, w⟩
  have e : (d.parts ++ [n]).map wd = d.parts.map wd ++ [.str (tx n)] := by rw [List.map_append]; rfl
  show Hold _ _ pp (.lst ((d.parts ++ [n]).map wd))
  rw [e]
  exact h.pa.put
theorem DAt.addKeep (h : DAt a K F0 H0 F H p dx pp pk pr d) {ks : List V} {q : Wd × Wd} {v : V} (hk : H pk = some (.lst ks)) (hv : Dp K F v (keepD q)) (w : ({ d with keeping := d.keeping ++ [q] } : Draft).Wf) :
    DAt a K F0 H0 F (upd H pk (.lst (ks ++ [v]))) p dx pp pk pr { d with keeping := d.keeping ++ [q] } := by
  obtain ⟨xs, h1, h2⟩ := h.ke
  obtain ⟨ys, h3, h4⟩ := h.ro
  have e := h1.h
  rw [hk] at e
  cases e
  refine ⟨h.gr.mut h1.f (.inr h.npk), h.np, h.npp, h.npk, h.npr, h.n1, h.n2, h.n3, h.me.other h.m2, h.pa.other h.n1, ⟨_, h1.put, ?_⟩, ⟨ys, h3.other h.n3.symm, h4⟩, w⟩
  rw [List.map_append]
  exact h2.snoc hv
theorem DAt.addRow (h : DAt a K F0 H0 F H p dx pp pk pr d) {rs : List V} {r : Row3} {v : V} (hk : H pr = some (.lst rs)) (hv : Dp K F v (rowD r)) (w : ({ d with rows := d.rows ++ [r] } : Draft).Wf) :
    DAt a K F0 H0 F (upd H pr (.lst (rs ++ [v]))) p dx pp pk pr { d with rows := d.rows ++ [r] } := by
  obtain ⟨xs, h1, h2⟩ := h.ke
  obtain ⟨ys, h3, h4⟩ := h.ro
  have e := h3.h
  rw [hk] at e
  cases e
  refine ⟨h.gr.mut h3.f (.inr h.npr), h.np, h.npp, h.npk, h.npr, h.n1, h.n2, h.n3, h.me.other h.m3, h.pa.other h.n2, ⟨xs, h1.other h.n3, h2⟩, ⟨_, h3.put, ?_⟩, w⟩
  rw [List.map_append]
  exact h4.snoc hv
end
/-! ### lists against [] -/
theorem eqvAll_nil (ds : List PyData) : PyData.eqv (.list ds) (.list []) = decide (ds = []) := by
  cases ds <;> simp [PyData.eqv, PyData.eqvAll]
theorem nil_shaped : SeqAt.shaped (.list []) = true := by decide +kernel
theorem shaped_of {ds : List PyData} (h : PyData.canLayAll0 ds = true) (h2 : PyData.depthAll ds ≤ 10) : SeqAt.shaped (.list ds) = true := by
  show (PyData.canLay0 (.list ds) && decide (PyData.depth (.list ds) ≤ 64)) = true
  rw [Bool.and_eq_true]
  exact ⟨by simp only [PyData.canLay0]; exact h, decide_eq_true (by simp only [PyData.depth]; omega)⟩
theorem wdD_lay1 {w : Wd} (h : okT w) : PyData.canLay0 (wdD w) = true := by
  have := wdD_lay [w] (fun x hx => by rw [List.mem_singleton.mp hx]; exact h)
  simpa [PyData.canLayAll0] using this
theorem keep_lay : ∀ ks : List (Wd × Wd), (∀ q ∈ ks, okT q.1 ∧ okT q.2) → PyData.canLayAll0 (ks.map keepD) = true ∧ PyData.depthAll (ks.map keepD) ≤ 1
  | [], _ => ⟨by simp [PyData.canLayAll0], by simp [PyData.depthAll]⟩
  | q :: ks, h => by
    have ih := keep_lay ks fun x hx => h x (List.mem_cons_of_mem _ hx)
    have hq := h q (List.mem_cons_self ..)
    have l1 := wdD_lay1 hq.1
    have l2 := wdD_lay1 hq.2
    refine ⟨?_, ?_⟩
    · simp [PyData.canLayAll0, keepD, PyData.canLay0, l1, l2, ih.1]
    · have := ih.2
      simp [PyData.depthAll, keepD, PyData.depth, wdD]
      omega
theorem row_lay : ∀ rs : List Row3, (∀ r ∈ rs, okT r.sign ∧ okT r.maker ∧ ∀ w ∈ r.changed, okT w) → PyData.canLayAll0 (rs.map rowD) = true ∧ PyData.depthAll (rs.map rowD) ≤ 2
  | [], _ => ⟨by simp [PyData.canLayAll0], by simp [PyData.depthAll]⟩
  | r :: rs, h => by
    have ih := row_lay rs fun x hx => h x (List.mem_cons_of_mem _ hx)
    have hq := h r (List.mem_cons_self ..)
    have l1 := wdD_lay1 hq.1
    have l2 := wdD_lay1 hq.2.1
    have l3 := wdD_lay r.changed hq.2.2
    refine ⟨?_, ?_⟩
    · simp [PyData.canLayAll0, rowD, PyData.canLay0, l1, l2, l3, ih.1]
    · have := ih.2
      have e := wdD_depth r.changed
      simp [PyData.depthAll, rowD, PyData.depth, wdD]
      have e' : PyData.depthAll (List.map wdD r.changed) = 0 := e
      unfold wdD at e'
      omega
section
variable {a : Ad} {K : PySem.W.Frag} {F0 H0 F H F' H' : Hp} {p dx pp pk pr l : Addr} {d : Draft} {Q : VK}
theorem DAt.kshaped (h : DAt a K F0 H0 F H p dx pp pk pr d) : SeqAt.shaped (.list (d.keeping.map keepD)) = true := by
  have z := keep_lay d.keeping fun q hq => ⟨(h.wf.kw q hq).1.1, (h.wf.kw q hq).2.1⟩
  exact shaped_of z.1 (Nat.le_trans z.2 (by decide))
theorem DAt.rshaped (h : DAt a K F0 H0 F H p dx pp pk pr d) : SeqAt.shaped (.list (d.rows.map rowD)) = true := by
  have z := row_lay d.rows fun q hq => ⟨(h.wf.rw q hq).s.1, (h.wf.rw q hq).m.1, fun w hw => ((h.wf.rw q hq).c w hw).1⟩
  exact shaped_of z.1 (Nat.le_trans z.2 (by decide))
theorem map_nil_iff {α β : Type} {f : α → β} {xs : List α} : decide (xs.map f = []) = decide (xs = []) := by cases xs <;> simp
theorem DAt.neK (h : DAt a K F0 H0 F H p dx pp pk pr d) (hl : H l = some (.lst [])) (q : Q (.bl (!decide (d.keeping = []))) H) : rNeD K (.ref pk) (.ref l) H Q := by
  obtain ⟨xs, h1, h2⟩ := h.ke
  exact rd_neD (.lst (sqL_of h1.h) (h2.mono h.gr.fh)) (.lst (sqL_of hl) .nil) h.kshaped nil_shaped (by rw [eqvAll_nil, map_nil_iff]; exact q)
theorem DAt.neR (h : DAt a K F0 H0 F H p dx pp pk pr d) (hl : H l = some (.lst [])) (q : Q (.bl (!decide (d.rows = []))) H) : rNeD K (.ref pr) (.ref l) H Q := by
  obtain ⟨xs, h1, h2⟩ := h.ro
  exact rd_neD (.lst (sqL_of h1.h) (h2.mono h.gr.fh)) (.lst (sqL_of hl) .nil) h.rshaped nil_shaped (by rw [eqvAll_nil, map_nil_iff]; exact q)
theorem DAt.eqR (h : DAt a K F0 H0 F H p dx pp pk pr d) (hl : H l = some (.lst [])) (q : Q (.bl (decide (d.rows = []))) H) : rEqD K (.ref pr) (.ref l) H Q := by
  obtain ⟨xs, h1, h2⟩ := h.ro
  exact rd_eqD (.lst (sqL_of h1.h) (h2.mono h.gr.fh)) (.lst (sqL_of hl) .nil) h.rshaped nil_shaped (by rw [eqvAll_nil, map_nil_iff]; exact q)
theorem DAt.eqP (h : DAt a K F0 H0 F H p dx pp pk pr d) (hl : H l = some (.lst [])) (q : Q (.bl (decide (d.parts = []))) H) : rEqD K (.ref pp) (.ref l) H Q :=
  rd_eqWL (vs := []) (sqL_of h.pa.h) (sqL_of hl) (fun w hw => (h.wf.pw w hw).1) (fun w hw => by cases hw) q
/-- words[i] -/
theorem rd_word {wl : Addr} {ws : List Wd} {i : Nat} (hw : SqL K H wl (ws.map wd)) (hi : i < ws.length) (q : Q (.str (tx (ws.getD i []))) H) : rIxL K (.ref wl) (.int (i : Nat)) H Q := by
  refine rd_ixL hw (atI_at (c := .str (tx (ws.getD i []))) ?_) q
  rw [List.getElem?_map, List.getElem?_eq_getElem hi, List.getD_eq_getElem?_getD, List.getElem?_eq_getElem hi]
  rfl
theorem len_eq {ws : List Wd} {z : Int} (c : V.int ((ws.map wd).length : Nat) = V.int z) : (ws.length : Int) = z := by
  rw [List.length_map] at c
  exact V.int.inj c
theorem len_ne {ws : List Wd} {z : Int} (c : ¬ V.int ((ws.map wd).length : Nat) = V.int z) : ¬ (ws.length : Int) = z := by
  rw [List.length_map] at c
  exact fun e => c (by rw [e])
theorem lenD_eq {α : Type} {xs : List V} {f : α → PyData} {ys : List α} {z : Int} (h : DpAll K F xs (ys.map f)) (c : V.int (xs.length : Nat) = V.int z) : (ys.length : Int) = z := by
  rw [h.length, List.length_map] at c
  exact V.int.inj c
theorem lenD_ne {α : Type} {xs : List V} {f : α → PyData} {ys : List α} {z : Int} (h : DpAll K F xs (ys.map f)) (c : ¬ V.int (xs.length : Nat) = V.int z) : ¬ (ys.length : Int) = z := by
  rw [h.length, List.length_map] at c
  exact fun e => c (by rw [e])
theorem hookV_non {o : Option Wd} : decide (hookV o = .non) = decide (o = none) := by cases o <;> simp [hookV]
theorem hookV_not {o : Option Wd} : (!decide (hookV o = .non)) = o.isSome := by cases o <;> simp [hookV]
end
local macro_rules | `(tactic| array_mem_dec) => `(tactic| with_reducible first
  | assumption | exact upd_same
  | (apply upd_new; assumption; array_mem_dec)
  | (apply upd_old; tlg_ne; array_mem_dec)
  | (apply same_at; assumption; array_mem_dec))
local macro_rules | `(tactic| tlg_ne) => `(tactic| with_reducible first
  | assumption | (apply Ne.symm; assumption)
  | (apply ne_new; assumption; array_mem_dec) | (apply ne_new'; assumption; array_mem_dec)
  | (apply ne_of; assumption; assumption; (with_unfolding_all (intro z; cases z; done))))
local macro_rules | `(tactic| decreasing_trivial_pre_omega) => `(tactic| with_reducible first
  | assumption | (apply sqL_of; array_mem_dec) | (apply sqT_of; array_mem_dec)
  | (apply Same.seq; assumption; decreasing_trivial_pre_omega) | (apply sqT_same; assumption; decreasing_trivial_pre_omega)
  | (apply sqL_new; assumption; decreasing_trivial_pre_omega) | (apply sqL_upd; tlg_ne; decreasing_trivial_pre_omega))
local macro_rules | `(tactic| kpt_turns) => `(tactic| with_reducible first
  | assumption | exact Same.refl _ | (apply same_ext; kpt_turns; assumption) | (apply same_mut; kpt_turns; keq_hits) | (apply same_step; assumption; kpt_turns))
local macro_rules | `(tactic| keq_hits) => `(tactic| with_reducible first | assumption | (apply same_none; assumption; keq_hits))
local macro_rules | `(tactic| sizeOf_list_dec) => `(tactic| first | (with_reducible assumption) | (with_reducible_and_instances omega) | (with_unfolding_all decide))
local macro_rules | `(tactic| array_get_dec) => `(tactic| first | (with_reducible assumption) | (apply sz_of; (with_unfolding_all simp); done) | (apply sz_of; omega) | (apply sz_lt; (with_unfolding_all simp); done) | (apply sz_lt; omega))
local macro_rules | `(tactic| keq_rows) => `(tactic| with_reducible first
  | apply rd_asgN | apply rd_seq | apply rd_parA | apply rd_par3A | apply rd_par2 | apply rd_par3 | apply rd_m1 | apply rd_isStr | apply rd_cval | apply rd_asg | apply rd_gname | apply rd_op | (show tVar _ _ _ _; refine rd_var (by with_unfolding_all rfl) ?_) | apply rd_c | apply rd_I0
  | apply rd_cons | apply rd_nil | apply rd_cb | apply rd_test | apply rd_bl | apply rd_fld | apply rd_drop | apply rd_ret | apply rd_retN | apply rd_next
  | apply rd_ifS | apply rd_un | apply rd_B | apply rd_and | apply rd_or | apply rd_not | apply rd_andV | apply rd_orV | apply rd_notV | apply rd_if
  | apply rd_int | apply rd_abs | apply rd_max | apply rd_min | apply rd_strS | apply rd_U
  | apply rd_eqTx | apply rd_neTx | apply rd_inTx | apply rd_notInTx | apply rd_fmt | (show FmtK (.str (tx _)) _ _; refine rd_fmtT (by omega) ?_) | apply rd_jsC | apply rd_jsN | (show JsK _ (tx _) _ (.str (tx _)) _ _; refine rd_JsK (by first | omega | (simp; done) | (simp; omega)) ?_) | (show rAddStr (.str (tx _)) (.str (tx _)) _ _; refine rd_addT (by first | omega | (simp; done) | (simp; omega)) ?_) | (show rLenStr [.str (tx _)] _ _; refine rd_lenTx (by omega) ?_)
  | (show rEq _ _ _ _; refine rd_eq (by with_unfolding_all rfl) ?_) | (show rNe _ _ _ _; refine rd_ne (by with_unfolding_all rfl) ?_) | apply rd_isNone | apply rd_notNone
  | (show rIxL _ _ _ _ _; refine rd_ixL (by decreasing_trivial_pre_omega) (by with_unfolding_all rfl) ?_) | (show rIxT _ _ _ _ _; refine rd_ixT (by decreasing_trivial_pre_omega) (by with_unfolding_all rfl) ?_)
  | (show rLenSeq _ _ _ _; refine rd_lenL (by decreasing_trivial_pre_omega) ?_) | (show rLenSeq _ _ _ _; refine rd_lenT (by decreasing_trivial_pre_omega) ?_)
  | (show rI _ _ _ _ _ _; refine rd_mod (by sizeOf_list_dec) ?_) | (show rI _ _ _ _ _ _; refine rd_div (by sizeOf_list_dec) (by sizeOf_list_dec) ?_) | (show rI _ _ _ _ _ _; refine rd_mulR (by sizeOf_list_dec) (by sizeOf_list_dec) ?_) | (show rI _ _ _ _ _ _; refine rd_mulL (by sizeOf_list_dec) (by sizeOf_list_dec) ?_) | (show rI _ _ _ _ _ _; refine rd_pow (by sizeOf_list_dec) ?_)
  | (show rSetL _ _ _ _ _; refine rd_setL (by array_mem_dec) (by with_unfolding_all rfl) ?_)
  | apply rd_inSign | apply rd_notInSign | apply rd_tupK | apply rd_lstK | apply rd_sl | apply rd_noPart | apply rd_part | apply rd_isInt
  | apply rd_gsub | apply rd_gcons | apply rd_gnil | apply rd_call | apply rd_meth | apply rd_make | apply rd_smeth | apply rd_isC | apply rd_smethK | apply rd_cmeth | apply rd_cmethK
  | apply rd_bm | apply rd_bm0 | (show BmK _ _ _ _ _ _ _ _; refine rd_bmL (by array_mem_dec) ?_) | (show Bm0K _ _ _ _ _ _; refine rd_bm0L (by array_mem_dec) ?_) | apply rd_sfld | apply rd_aug | apply rd_rAdd | apply rd_brk | apply rd_cont
  | apply rd_for | apply rd_iList | (show IList _ _ _ _; refine rd_IList (by decreasing_trivial_pre_omega) ?_) | apply rd_iTup | (show ITup _ _ _ _; refine rd_ITup (by decreasing_trivial_pre_omega) ?_) | apply rd_iEnum | (show IEnum _ _ _ _; refine rd_IEnum (by decreasing_trivial_pre_omega) ?_) | apply rd_iRng1 | (show IRng1 _ _ _; refine rd_IRng1 (by sizeOf_list_dec) (by sizeOf_list_dec) ?_)
  | (show rLenStr _ _ _; refine rd_lenS (by array_get_dec) ?_) | (show rAddStr _ _ _ _; refine rd_addS (by array_get_dec) ?_) | (show rSlS _ _ _ _ _; refine rd_slS (by array_get_dec) ?_) | apply rd_lc | apply rd_yes | (show gTup _ _ _ _ _ _ _; refine rd_gtup (by decreasing_trivial_pre_omega) (by with_unfolding_all rfl) ?_) | (show tMakeL _ _ _ _ _ _ _ _; refine rd_makeL (by with_unfolding_all rfl) ?_))
local macro_rules | `(tactic| kas_types) => `(tactic| with_reducible first | apply rd_isi_int_int | apply rd_isi_int_bool | apply rd_isi_int_str | apply rd_isi_int_list | apply rd_isi_int_tuple | apply rd_isi_bool_int | apply rd_isi_bool_bool | apply rd_isi_bool_str | apply rd_isi_bool_list | apply rd_isi_bool_tuple | apply rd_isi_str_int | apply rd_isi_str_bool | apply rd_isi_str_str | apply rd_isi_str_list | apply rd_isi_str_tuple | (show rIsi _ _ _ _; refine rd_isi_list_int (by array_mem_dec) ?_) | (show rIsi _ _ _ _; refine rd_isi_list_bool (by array_mem_dec) ?_) | (show rIsi _ _ _ _; refine rd_isi_list_str (by array_mem_dec) ?_) | (show rIsi _ _ _ _; refine rd_isi_list_list (by array_mem_dec) ?_) | (show rIsi _ _ _ _; refine rd_isi_list_tuple (by array_mem_dec) ?_) | (show rIsi _ _ _ _; refine rd_isi_tuple_int (by array_mem_dec) ?_) | (show rIsi _ _ _ _; refine rd_isi_tuple_bool (by array_mem_dec) ?_) | (show rIsi _ _ _ _; refine rd_isi_tuple_str (by array_mem_dec) ?_) | (show rIsi _ _ _ _; refine rd_isi_tuple_list (by array_mem_dec) ?_) | (show rIsi _ _ _ _; refine rd_isi_tuple_tuple (by array_mem_dec) ?_) | apply rd_isi_NoneType_int | apply rd_isi_NoneType_bool | apply rd_isi_NoneType_str | apply rd_isi_NoneType_list | apply rd_isi_NoneType_tuple)
local macro_rules | `(tactic| lcg_src) => `(tactic| repeat keq_rows)

local macro_rules | `(tactic| lcg_sub) => `(tactic| with_reducible first | apply rd_chain | refine fldD_name (by assumption) (by array_mem_dec) ?_ | refine fldD_parts (by assumption) (by array_mem_dec) ?_ | refine fldD_keeping (by assumption) (by array_mem_dec) ?_ | refine fldD_root_hook (by assumption) (by array_mem_dec) ?_ | refine fldD_rows (by assumption) (by array_mem_dec) ?_ | refine methD (by array_mem_dec) (by decide +kernel) (by decide +kernel) (by decide +kernel) (by decide +kernel) (by decide +kernel) ?_)
local macro_rules | `(tactic| lcg_off) => `(tactic| repeat (first | keq_rows | lcg_sub))
section
variable {P : Program} {w : World} {K : PySem.W.Frag} {mg : Str → Option Value} {base : Heap} {a : Ad}
def sp_LibraryDraft_is_new (a : Ad) (K : PySem.W.Frag) : Sp := fun vs H Q _ => ∃ (F0 H0 F : Hp) (p dx pp pk pr : Addr) (d : Draft) (l : Wd), vs = [.ref p, .str (tx l)] ∧ DAt a K F0 H0 F H p dx pp pk pr d ∧ l.length ≤ 10000 ∧
  ∀ F' H', DAt a K F0 H0 F' H' p dx pp pk pr d → Grow [] F H F' H' → Q (.bl (d.isNew l)) H'
theorem tup0 {K : PySem.W.Frag} {H : Hp} {v : V} {q : Wd × Wd} (h : Dp K H v (keepD q)) : ∃ t, v = .ref t ∧ SqT K H t [.str (tx q.1), .str (tx q.2)] := by
  obtain ⟨t, e, hs⟩ := h.tup_flat (ws := [.str (tx q.1), .str (tx q.2)]) rfl
  exact ⟨t, e, hs⟩
theorem tup3 {K : PySem.W.Frag} {H : Hp} {v : V} {r : Row3} (h : Dp K H v (rowD r)) : ∃ t c, v = .ref t ∧ SqT K H t [.str (tx r.sign), .ref c, .str (tx r.maker)] ∧ SqT K H c (r.changed.map wd) := by
  obtain ⟨t, xs, rfl, hs, ha⟩ := h.tup_inv
  cases ha with
  | cons h1 h2 =>
    cases h2 with
    | cons h3 h4 =>
      cases h4 with
      | cons h5 h6 =>
        cases h6
        obtain rfl := h1.str_inv
        obtain rfl := h5.str_inv
        obtain ⟨c, ys, rfl, hc, hy⟩ := h3.tup_inv
        refine ⟨t, c, rfl, hs, ?_⟩
        have e : ys = r.changed.map wd := by
          have : flAll (r.changed.map wdD) = some (r.changed.map wd) := by
            induction r.changed with
            | nil => rfl
            | cons x xs ih => rw [List.map_cons, List.map_cons]; unfold flAll; rw [ih]; rfl
          exact flAll_inv this hy
        rw [e] at hc
        exact hc
/-- [row[0] for row in self.keeping] -/
theorem firsts_keep {F H : Hp} {pk : Addr} {ks : List V} {keeping : List (Wd × Wd)} {Q : VK} {g : TG} {tt : TT} {te : TE} {vs : List Nat} {σ : L2.St} (fh : Same F H) (hk : H pk = some (.lst ks)) (hd : DpAll K H ks (keeping.map keepD)) (hl : keeping.length ≤ 1000)
    (turn : ∀ (t : Addr) (q : Wd × Wd) H1 (Done : Hp → Prop) (Kept : VK), SqT K H1 t [.str (tx q.1), .str (tx q.2)] → (∀ H3, Same H1 H3 → Kept (.str (tx q.1)) H3) → g (.ref t) (wipe σ vs) H1 fun σ2 H2 => wipe σ2 vs = wipe σ vs ∧ tt σ2 H2 fun b H3 => if b = true then te σ2 H3 Kept else Done H3)
    (k : ∀ D H', H D = none → Grow [] F H F H' → H' D = some (.lst ((keeping.map (·.1)).map wd)) → Q (.ref D) H') : LcK (Itl K pk) g tt te vs σ H Q := by
  have hn : ks.length = keeping.length := by simpa using hd.length
  refine lcL (rows := keeping) hn (by omega) (sqL_of hk) (fun _ => true) (fun q => .str (tx q.1)) (fun i x q H1 hx hr s1 Done Kept hdn hkp => ?_) fun D H' hD s' e => ?_
  · obtain ⟨dd, e1, e2⟩ := hd.get hx
    rw [List.getElem?_map, hr] at e1
    cases e1
    obtain ⟨t, rfl, hs⟩ := tup0 e2
    exact turn t q H1 Done Kept (sqT_same s1 hs) fun H3 s3 => hkp H3 s3 rfl
  · refine k D H' hD (Grow.ofSame' fh s') ?_
    rw [e, List.map_map]
    congr 3
    simp
theorem ok_LibraryDraft_is_new (T : Txt K mg a) : FnOk P w K mg base CX0 3 a.f_LibraryDraft_is_new a.fd_LibraryDraft_is_new ["self", "word"]  (sp_LibraryDraft_is_new a K) := by
  refine T.F_LibraryDraft_is_new.ok sc_LibraryDraft_is_new (fun vs H Q E h => ?_) (fun cdv A outer s H vs Q E hr h => ?_)
  · obtain ⟨_, _, _, _, _, _, _, _, _, _, rfl, _⟩ := h
    rfl
  · obtain ⟨F0, H0, F, p, dx, pp, pk, pr, d, l, rfl, D, hl, k⟩ := h
    refine ⟨_, ((pss_one (ps_ret (pe_and (pe_call (ok_is_field_name T) hr rfl T.g_is_field_name T.F_is_field_name.kp T.b_is_field_name .nil pass0 (pa_cons (pv 1) pa_nil)) (pe_and (pe_cmpR op_notIn_seq (pv 1) (pe_fld (pv 0) rfl) (by rfl)) (pe_one (pe_cmpR op_notIn_seq (pv 1) (pe_lc (own := [("row", 2)]) (g := gName 2) (tt := tYes) rfl sc_LibraryDraft_is_new.nd (pi_list (pe_fld (pv 0) rfl)) (blkOk_by (own := [("row", 2)]) (N := ["self", "word", "row"]) (sc := defScope s_LibraryDraft_is_new) (by decide +kernel)) (fun _ _ _ _ _ => (pg_name (i := 2) sc_LibraryDraft_is_new.nd rfl (Or.inl rfl))) (fun _ _ _ _ _ => pts_nil) (fun _ _ _ _ _ => (pe_ix (ix_tupK (K := K)) (pv 2) pe_int (fun _ _ => rfl)))) (by rfl)))))))), ?_⟩
    try simp only [cxK]
    have hB : d.isNew l = (isFieldB l && (!decide (l ∈ d.parts) && !decide (l ∈ d.keeping.map (·.1)))) := rfl
    have hs := D.me.h
    lcg_off
    refine ⟨F, l, rfl, D.gr.fh, hl, fun F1 H1 g1 => ?_⟩
    have D1 := D.beside g1
    have hs1 := D1.me.h
    lcg_off
    refine ifB (fun c1 => ?_) (fun c1 => ?_)
    · lcg_off
      refine rd_notInWL (sqL_of D1.pa.h) ?_
      lcg_off
      refine ifB (fun c2 => ?_) (fun c2 => ?_)
      · lcg_off
        obtain ⟨ks, k1, k2⟩ := D1.ke
        refine rd_IList (sqL_of k1.h) ?_
        refine firsts_keep D1.gr.fh k1.h (k2.mono D1.gr.fh) (Nat.le_trans D1.wf.kl (by decide)) (fun t q H2 Done Kept ht hk => ?_) fun L H2 hL g2 e2 => ?_
        · lcg_off
          refine ⟨rfl, ?_⟩
          lcg_off
          refine iteT ?_
          lcg_off
          exact hk _ (Same.refl _)
        · refine rd_notInWL (sqL_of e2) ?_
          rw [hB, c1, c2, Bool.true_and, Bool.true_and] at k
          exact k F1 H2 (D1.beside g2) (g1.trans g2)
      · rw [hB, c1, c2, Bool.true_and, Bool.false_and] at k
        exact k F1 H1 D1 g1
    · rw [hB, c1, Bool.false_and] at k
      exact k F1 H1 D1 g1
end
end Lb

namespace Lb
open PySem L2 Hk
theorem library_tx : Str.ofString "library" = tx wLibrary := by decide +kernel
theorem needs_tx : Str.ofString "needs" = tx wNeeds := by decide +kernel
theorem keeps_tx : Str.ofString "keeps" = tx wKeeps := by decide +kernel
theorem make_tx : Str.ofString "make" = tx wMake := by decide +kernel
theorem by_tx : Str.ofString "by" = tx wBy := by decide +kernel
theorem of_tx : Str.ofString "of" = tx wOf := by decide +kernel
theorem bare_tx : Str.ofString "bare" = tx wBare := by decide +kernel
theorem changes_tx : Str.ofString "changes" = tx wChanges := by decide +kernel
theorem space_tx : Str.ofString " " = tx [32] := by decide +kernel
theorem none_tx : Str.ofString "" = tx [] := by decide +kernel
section
variable {K : PySem.W.Frag} {F H : Hp} {Q : VK} {r : Addr} {xs : List V}
theorem new_sl {lo hi : Option Int} (fh : Same F H) (h : SqL K H r xs) (k : ∀ F' H' p, Grow [] F H F' H' → H p = none → F' p = some (.lst (cutV xs lo hi)) → Q (.ref p) H') : rSlL K (.ref r) lo hi H Q :=
  rd_slL h fun l hl => k (upd F l (.lst (cutV xs lo hi))) _ l ((Grow.refl fh).new hl) hl upd_same
theorem new_tup (fh : Same F H) (h : SqL K H r xs) (k : ∀ F' H' p, Grow [] F H F' H' → H p = none → F' p = some (.tup xs) → Q (.ref p) H') : rTupOf K [.ref r] H Q :=
  rd_tupL h fun l hl => k (upd F l (.tup xs)) _ l ((Grow.refl fh).new hl) hl upd_same
theorem cutW_from (ws : List Wd) (i : Nat) : cutV (ws.map wd) (some (i : Int)) none = (ws.drop i).map wd := by
  unfold cutV
  rw [HT.sIx_none, HT.sIx_nat, List.length_map]
  by_cases h : i ≤ ws.length
  · rw [Nat.min_eq_left h, ← List.map_drop, List.take_of_length_le (by rw [List.length_map, List.length_drop]; omega)]
  · rw [Nat.min_eq_right (by omega), Nat.sub_self, List.take_zero, List.drop_eq_nil_of_le (by omega)]
    rfl
theorem cutW_mid (ws : List Wd) {i j : Nat} (h : i ≤ j) (hj : j ≤ ws.length) : cutV (ws.map wd) (some (i : Int)) (some (j : Int)) = ((ws.take j).drop i).map wd := by
  unfold cutV
  rw [HT.sIx_nat, HT.sIx_nat, List.length_map, Nat.min_eq_left hj, Nat.min_eq_left (show i ≤ ws.length by omega), ← List.map_drop, ← List.map_take, List.drop_take]
theorem rd_indexW {p : Addr} {ws : List Wd} {l : Wd} (h : SqL K H p (ws.map wd)) (hm : l ∈ ws) (q : Q (.int (ws.idxOf l : Nat)) H) : rIndex K (.ref p) [.str (tx l)] H Q := by
  have hlt := List.idxOf_lt_length_of_mem hm
  refine ⟨p, ws.map wd, .str (tx l), ws.idxOf l, .str (tx l), rfl, rfl, h, rfl, wd_flat ws, ?_, ?_, fun m z hz he => ?_, q⟩
  · rw [List.getElem?_map, List.getElem?_eq_getElem hlt, List.getElem_idxOf hlt]
    rfl
  · show (tx l == tx l) = true
    simp
  · have hml : m < ws.length := by omega
    rw [List.getElem?_map, List.getElem?_eq_getElem hml] at he
    obtain rfl : V.str (tx ws[m]) = z := Option.some.inj he
    show (tx ws[m] == tx l) = false
    have : ws[m] ≠ l := by
      intro e
      have := List.not_of_lt_findIdx (p := fun x => x == l) (xs := ws) hz
      simp [e] at this
    have h1 : ¬ tx ws[m] = tx l := fun z => this (tx_inj.mp z)
    simp [h1]
end
section
variable {a : Ad} {K : PySem.W.Frag} {F0 H0 F H F' H' : Hp} {p dx pp pk pr : Addr} {d d' : Draft} {Q : VK} {o : Option Draft}
theorem dr_no (k : ∀ F' H', DAt a K F0 H0 F' H' p dx pp pk pr (o.getD d) → Same F F' → Q (.bl o.isSome) H') (e : o = none) (D : DAt a K F0 H0 F' H' p dx pp pk pr d) (s : Same F F') : Q (.bl false) H' := by
  subst e
  exact k F' H' D s
theorem dr_yes (k : ∀ F' H', DAt a K F0 H0 F' H' p dx pp pk pr (o.getD d) → Same F F' → Q (.bl o.isSome) H') (e : o = some d') (D : DAt a K F0 H0 F' H' p dx pp pk pr d') (s : Same F F') : Q (.bl true) H' := by
  subst e
  exact k F' H' D s
end
def DrPost (a : Ad) (K : PySem.W.Frag) (F0 H0 F : Hp) (p dx pp pk pr : Addr) (d : Draft) (o : Option Draft) (Q : VK) : Prop := ∀ F' H', DAt a K F0 H0 F' H' p dx pp pk pr (o.getD d) → Same F F' → Q (.bl o.isSome) H'
def sp_dr (f : Draft → List Wd → Option Draft) (a : Ad) (K : PySem.W.Frag) : Sp := fun vs H Q _ => ∃ (F0 H0 F : Hp) (p dx pp pk pr : Addr) (d : Draft) (ws : List Wd) (wl : Addr), vs = [.ref p, .ref wl] ∧ DAt a K F0 H0 F H p dx pp pk pr d ∧ SqL K F wl (ws.map wd) ∧ WsOk ws ∧
  DrPost a K F0 H0 F p dx pp pk pr d (f d ws) Q
theorem bl_f {b : Bool} (h : (!b) = true) : b = false := by cases b <;> simp_all
theorem bl_t {b : Bool} (h : (!b) = false) : b = true := by cases b <;> simp_all
local macro_rules | `(tactic| array_mem_dec) => `(tactic| with_reducible first
  | assumption | exact upd_same
  | (apply upd_new; assumption; array_mem_dec)
  | (apply upd_old; tlg_ne; array_mem_dec)
  | (apply same_at; assumption; array_mem_dec))
local macro_rules | `(tactic| tlg_ne) => `(tactic| with_reducible first
  | assumption | (apply Ne.symm; assumption)
  | (apply ne_new; assumption; array_mem_dec) | (apply ne_new'; assumption; array_mem_dec)
  | (apply ne_of; assumption; assumption; (with_unfolding_all (intro z; cases z; done))))
local macro_rules | `(tactic| decreasing_trivial_pre_omega) => `(tactic| with_reducible first
  | assumption | (apply sqL_of; array_mem_dec) | (apply sqT_of; array_mem_dec)
  | (apply Same.seq; assumption; decreasing_trivial_pre_omega) | (apply sqT_same; assumption; decreasing_trivial_pre_omega)
  | (apply sqL_new; assumption; decreasing_trivial_pre_omega) | (apply sqL_upd; tlg_ne; decreasing_trivial_pre_omega))
local macro_rules | `(tactic| kpt_turns) => `(tactic| with_reducible first
  | assumption | exact Same.refl _ | (apply same_ext; kpt_turns; assumption) | (apply same_mut; kpt_turns; keq_hits) | (apply same_step; assumption; kpt_turns))
local macro_rules | `(tactic| keq_hits) => `(tactic| with_reducible first | assumption | (apply same_none; assumption; keq_hits))
local macro_rules | `(tactic| sizeOf_list_dec) => `(tactic| first | (with_reducible assumption) | (with_reducible_and_instances omega) | (with_unfolding_all decide))
local macro_rules | `(tactic| array_get_dec) => `(tactic| first | (with_reducible assumption) | (apply sz_of; (with_unfolding_all simp); done) | (apply sz_of; omega) | (apply sz_lt; (with_unfolding_all simp); done) | (apply sz_lt; omega))
local macro_rules | `(tactic| keq_rows) => `(tactic| with_reducible first
  | apply rd_asgN | apply rd_seq | apply rd_parA | apply rd_par3A | apply rd_par2 | apply rd_par3 | apply rd_m1 | apply rd_isStr | apply rd_cval | apply rd_asg | apply rd_gname | apply rd_op | (show tVar _ _ _ _; refine rd_var (by with_unfolding_all rfl) ?_) | apply rd_c | apply rd_I0
  | apply rd_cons | apply rd_nil | apply rd_cb | apply rd_test | apply rd_bl | apply rd_fld | apply rd_drop | apply rd_ret | apply rd_retN | apply rd_next
  | apply rd_ifS | apply rd_un | apply rd_B | apply rd_and | apply rd_or | apply rd_not | apply rd_andV | apply rd_orV | apply rd_notV | apply rd_if
  | apply rd_int | apply rd_abs | apply rd_max | apply rd_min | apply rd_strS | apply rd_U
  | apply rd_eqTx | apply rd_neTx | apply rd_inTx | apply rd_notInTx | apply rd_fmt | (show FmtK (.str (tx _)) _ _; refine rd_fmtT (by omega) ?_) | apply rd_jsC | apply rd_jsN | (show JsK _ (tx _) _ (.str (tx _)) _ _; refine rd_JsK (by first | omega | (simp; done) | (simp; omega)) ?_) | (show rAddStr (.str (tx _)) (.str (tx _)) _ _; refine rd_addT (by first | omega | (simp; done) | (simp; omega)) ?_) | (show rLenStr [.str (tx _)] _ _; refine rd_lenTx (by omega) ?_)
  | (show rEq _ _ _ _; refine rd_eq (by with_unfolding_all rfl) ?_) | (show rNe _ _ _ _; refine rd_ne (by with_unfolding_all rfl) ?_) | apply rd_isNone | apply rd_notNone
  | (show rIxL _ _ _ _ _; refine rd_ixL (by decreasing_trivial_pre_omega) (by with_unfolding_all rfl) ?_) | (show rIxT _ _ _ _ _; refine rd_ixT (by decreasing_trivial_pre_omega) (by with_unfolding_all rfl) ?_)
  | (show rLenSeq _ _ _ _; refine rd_lenL (by decreasing_trivial_pre_omega) ?_) | (show rLenSeq _ _ _ _; refine rd_lenT (by decreasing_trivial_pre_omega) ?_)
  | (show rI _ _ _ _ _ _; refine rd_mod (by sizeOf_list_dec) ?_) | (show rI _ _ _ _ _ _; refine rd_div (by sizeOf_list_dec) (by sizeOf_list_dec) ?_) | (show rI _ _ _ _ _ _; refine rd_mulR (by sizeOf_list_dec) (by sizeOf_list_dec) ?_) | (show rI _ _ _ _ _ _; refine rd_mulL (by sizeOf_list_dec) (by sizeOf_list_dec) ?_) | (show rI _ _ _ _ _ _; refine rd_pow (by sizeOf_list_dec) ?_)
  | (show rSetL _ _ _ _ _; refine rd_setL (by array_mem_dec) (by with_unfolding_all rfl) ?_)
  | apply rd_inSign | apply rd_notInSign | apply rd_tupK | apply rd_lstK | apply rd_sl | apply rd_noPart | apply rd_part | apply rd_isInt
  | apply rd_gsub | apply rd_gcons | apply rd_gnil | apply rd_call | apply rd_meth | apply rd_make | apply rd_smeth | apply rd_isC | apply rd_smethK | apply rd_cmeth | apply rd_cmethK
  | apply rd_bm | apply rd_bm0 | (show BmK _ _ _ _ _ _ _ _; refine rd_bmL (by array_mem_dec) ?_) | (show Bm0K _ _ _ _ _ _; refine rd_bm0L (by array_mem_dec) ?_) | apply rd_sfld | apply rd_aug | apply rd_rAdd | apply rd_brk | apply rd_cont
  | apply rd_for | apply rd_iList | (show IList _ _ _ _; refine rd_IList (by decreasing_trivial_pre_omega) ?_) | apply rd_iTup | (show ITup _ _ _ _; refine rd_ITup (by decreasing_trivial_pre_omega) ?_) | apply rd_iEnum | (show IEnum _ _ _ _; refine rd_IEnum (by decreasing_trivial_pre_omega) ?_) | apply rd_iRng1 | (show IRng1 _ _ _; refine rd_IRng1 (by sizeOf_list_dec) (by sizeOf_list_dec) ?_)
  | (show rLenStr _ _ _; refine rd_lenS (by array_get_dec) ?_) | (show rAddStr _ _ _ _; refine rd_addS (by array_get_dec) ?_) | (show rSlS _ _ _ _ _; refine rd_slS (by array_get_dec) ?_) | apply rd_lc | apply rd_yes | (show gTup _ _ _ _ _ _ _; refine rd_gtup (by decreasing_trivial_pre_omega) (by with_unfolding_all rfl) ?_) | (show tMakeL _ _ _ _ _ _ _ _; refine rd_makeL (by with_unfolding_all rfl) ?_))
local macro_rules | `(tactic| kas_types) => `(tactic| with_reducible first | apply rd_isi_int_int | apply rd_isi_int_bool | apply rd_isi_int_str | apply rd_isi_int_list | apply rd_isi_int_tuple | apply rd_isi_bool_int | apply rd_isi_bool_bool | apply rd_isi_bool_str | apply rd_isi_bool_list | apply rd_isi_bool_tuple | apply rd_isi_str_int | apply rd_isi_str_bool | apply rd_isi_str_str | apply rd_isi_str_list | apply rd_isi_str_tuple | (show rIsi _ _ _ _; refine rd_isi_list_int (by array_mem_dec) ?_) | (show rIsi _ _ _ _; refine rd_isi_list_bool (by array_mem_dec) ?_) | (show rIsi _ _ _ _; refine rd_isi_list_str (by array_mem_dec) ?_) | (show rIsi _ _ _ _; refine rd_isi_list_list (by array_mem_dec) ?_) | (show rIsi _ _ _ _; refine rd_isi_list_tuple (by array_mem_dec) ?_) | (show rIsi _ _ _ _; refine rd_isi_tuple_int (by array_mem_dec) ?_) | (show rIsi _ _ _ _; refine rd_isi_tuple_bool (by array_mem_dec) ?_) | (show rIsi _ _ _ _; refine rd_isi_tuple_str (by array_mem_dec) ?_) | (show rIsi _ _ _ _; refine rd_isi_tuple_list (by array_mem_dec) ?_) | (show rIsi _ _ _ _; refine rd_isi_tuple_tuple (by array_mem_dec) ?_) | apply rd_isi_NoneType_int | apply rd_isi_NoneType_bool | apply rd_isi_NoneType_str | apply rd_isi_NoneType_list | apply rd_isi_NoneType_tuple)
local macro_rules | `(tactic| lcg_src) => `(tactic| repeat keq_rows)

local macro_rules | `(tactic| lcg_sub) => `(tactic| with_reducible first | apply rd_chain | refine fldD_name (by assumption) (by array_mem_dec) ?_ | refine fldD_parts (by assumption) (by array_mem_dec) ?_ | refine fldD_keeping (by assumption) (by array_mem_dec) ?_ | refine fldD_root_hook (by assumption) (by array_mem_dec) ?_ | refine fldD_rows (by assumption) (by array_mem_dec) ?_ | refine methD (by array_mem_dec) (by decide +kernel) (by decide +kernel) (by decide +kernel) (by decide +kernel) (by decide +kernel) ?_)
local macro_rules | `(tactic| lcg_off) => `(tactic| repeat (first | keq_rows | lcg_sub))
section
variable {P : Program} {w : World} {K : PySem.W.Frag} {mg : Str → Option Value} {base : Heap} {a : Ad}
theorem ok_LibraryDraft_takes_name (T : Txt K mg a) : FnOk P w K mg base CX0 2 a.f_LibraryDraft_takes_name a.fd_LibraryDraft_takes_name ["self", "words"]  (sp_dr Draft.takesName a K) := by
  refine T.F_LibraryDraft_takes_name.ok sc_LibraryDraft_takes_name (fun vs H Q E h => ?_) (fun cdv A outer s H vs Q E hr h => ?_)
  · obtain ⟨_, _, _, _, _, _, _, _, _, _, _, rfl, _⟩ := h
    rfl
  · obtain ⟨F0, H0, F, p, dx, pp, pk, pr, d, ws, wl, rfl, D, hw, ok, k⟩ := h
    refine ⟨_, ((pss_cons (ps_if (PW.pt (pw_or (pt_cmpR op_ne (pe_callB call_lenSeq (by rfl) T.n_len (by decide +kernel) (pa_cons (pv 1) pa_nil)) pe_int (nomark _)) (pw_or (pt_cmpR op_ne (pe_ix ix_list (pv 1) pe_int (fun _ _ => rfl)) pe_str (nomark _)) (pw_or1 (pt_not (pt_val (pe_call (ok_is_class_name T) hr rfl T.g_is_class_name T.F_is_class_name.kp T.b_is_class_name .nil pass0 (pa_cons (pe_ix ix_list (pv 1) pe_int (fun _ _ => rfl)) pa_nil))))))))
 (pss_one (ps_ret pe_bl))
 pss_nil)
 (pss_cons (ps_fld (pv 0) (pe_ix ix_list (pv 1) pe_int (fun _ _ => rfl)) rfl)
 (pss_one (ps_ret pe_bl))))), ?_⟩
    try simp only [cxK, library_tx]
    have hs := D.me.h
    have hwH := D.gr.fh.seq hw
    lcg_off
    refine ifN (fun c1 => ?_) (fun c1 => ?_)
    · have c1 := len_ne c1
      refine iteT ?_
      lcg_off
      exact dr_no k (if_pos (.inl (by omega))) D (Same.refl _)
    · have c1 := len_eq c1
      lcg_off
      refine rd_word (i := 0) hwH (by omega) ?_
      lcg_off
      refine ifN (fun c2 => ?_) (fun c2 => ?_)
      · refine iteT ?_
        lcg_off
        exact dr_no k (if_pos (.inr (.inl c2))) D (Same.refl _)
      · lcg_off
        refine rd_word (i := 1) hwH (by omega) ?_
        lcg_off
        refine ⟨F, ws.getD 1 [], rfl, D.gr.fh, ok.getL 1, fun F1 H1 g1 => ?_⟩
        have D1 := D.beside g1
        have hs1 := D1.me.h
        lcg_off
        refine ifB (fun c3 => ?_) (fun c3 => ?_)
        · lcg_off
          exact dr_no k (if_pos (.inr (.inr (bl_f c3)))) D1 g1.ff
        · have c3 := bl_t c3
          have e : d.takesName ws = some { d with name := ws.getD 1 [] } := by
            refine if_neg ?_
            rintro (h | h | h)
            · omega
            · exact h c2
            · rw [c3] at h; cases h
          lcg_off
          refine rd_word (i := 1) (D1.gr.fh.seq (g1.ff.seq hw)) (by omega) ?_
          lcg_off
          refine rd_sfldK hs1 T.cl_LibraryDraft T.no_LibraryDraft_name (by show 5 < 1000; decide) ?_
          rw [fD_put_name]
          lcg_off
          exact dr_yes k e (D1.setName (takesName_wf D.wf ok.ok e)) g1.ff
theorem ok_LibraryDraft_takes_needs (T : Txt K mg a) : FnOk P w K mg base CX0 4 a.f_LibraryDraft_takes_needs a.fd_LibraryDraft_takes_needs ["self", "words"]  (sp_dr Draft.takesNeeds a K) := by
  refine T.F_LibraryDraft_takes_needs.ok sc_LibraryDraft_takes_needs (fun vs H Q E h => ?_) (fun cdv A outer s H vs Q E hr h => ?_)
  · obtain ⟨_, _, _, _, _, _, _, _, _, _, _, rfl, _⟩ := h
    rfl
  · obtain ⟨F0, H0, F, p, dx, pp, pk, pr, d, ws, wl, rfl, D, hw, ok, k⟩ := h
    refine ⟨_, ((pss_cons (ps_if (PW.pt (pw_or (pt_cmpR (op_neD hr.units) (pe_fld (pv 0) rfl) (pe_lst pa_nil) (nomark _)) (pw_or (pt_cmpR op_notNone (pe_fld (pv 0) rfl) pe_non (nomark _)) (pw_or1 (pt_cmpR (op_neD hr.units) (pe_fld (pv 0) rfl) (pe_lst pa_nil) (nomark _))))))
 (pss_one (ps_ret pe_bl))
 pss_nil)
 (pss_cons (ps_if (PW.pt (pw_or (pt_cmpR op_ne (pe_callB call_lenSeq (by rfl) T.n_len (by decide +kernel) (pa_cons (pv 1) pa_nil)) pe_int (nomark _)) (pw_or (pt_not (pt_val (pe_meth (pv 0) T.cl_LibraryDraft T.m_LibraryDraft_is_new (ok_LibraryDraft_is_new T) hr T.b_LibraryDraft_is_new .nil pass0 (pa_cons (pe_ix ix_list (pv 1) pe_int (fun _ _ => rfl)) pa_nil)))) (pw_or1 (pt_cmpR op_eq (pe_callB call_lenSeq (by rfl) T.n_len (by decide +kernel) (pa_cons (pe_fld (pv 0) rfl) pa_nil)) (pe_glob (v := .int 3) rfl T.g_MOST_PARAMETERS ⟨_, rfl⟩) (nomark _))))))
 (pss_one (ps_ret pe_bl))
 pss_nil)
 (pss_cons (ps_expr (pe_bm PySem.F.plainAttrs_list PySem.F.slot_list_append PySem.F.type_list_append mt_append (pe_fld (pv 0) rfl) (pa_cons (pe_ix ix_list (pv 1) pe_int (fun _ _ => rfl)) pa_nil)))
 (pss_one (ps_ret pe_bl)))))), ?_⟩
    try simp only [cxK]
    have hs := D.me.h
    lcg_off
    refine newL D.gr.fh fun F1 H1 l1 g1 n1 e1 => ?_
    have D1 := D.beside g1
    have hs1 := D1.me.h
    refine D1.neK (g1.fh _ _ e1) ?_
    lcg_off
    refine ifN (fun c1 => ?_) (fun c1 => ?_)
    · refine iteT ?_
      lcg_off
      exact dr_no k (if_pos (.inl c1)) D1 g1.ff
    lcg_off
    rw [hookV_not]
    refine ifB (fun c2 => ?_) (fun c2 => ?_)
    · refine iteT ?_
      lcg_off
      exact dr_no k (if_pos (.inr (.inl (by intro z; rw [z] at c2; cases c2)))) D1 g1.ff
    have c2' : d.hook = none := by cases z : d.hook with | none => rfl | some x => rw [z] at c2; cases c2
    lcg_off
    refine newL D1.gr.fh fun F2 H2 l2 g2 n2 e2 => ?_
    have D2 := D1.beside g2
    have hs2 := D2.me.h
    have g12 := g1.trans g2
    refine D2.neR (g2.fh _ _ e2) ?_
    lcg_off
    refine ifN (fun c3 => ?_) (fun c3 => ?_)
    · lcg_off
      exact dr_no k (if_pos (.inr (.inr c3))) D2 g12.ff
    have hwH := D2.gr.fh.seq (g12.ff.seq hw)
    have e0 : d.takesNeeds ws = if ws.length ≠ 2 ∨ d.isNew (ws.getD 1 []) = false ∨ d.parts.length = 3 then none else some { d with parts := d.parts ++ [ws.getD 1 []] } := by
      refine if_neg ?_
      rintro (h | h | h)
      · exact h c1
      · exact h c2'
      · exact h c3
    lcg_off
    refine ifN (fun c4 => ?_) (fun c4 => ?_)
    · have c4 := len_ne c4
      refine iteT ?_
      lcg_off
      exact dr_no k (e0.trans (if_pos (.inl (by omega)))) D2 g12.ff
    have c4 := len_eq c4
    lcg_off
    refine rd_word (i := 1) hwH (by omega) ?_
    lcg_off
    refine ⟨F0, H0, F2, p, dx, pp, pk, pr, d, _, rfl, D2, ok.getL 1, fun F3 H3 D3 g3 => ?_⟩
    have hs3 := D3.me.h
    have hp3 := D3.pa.h
    have g13 := g12.trans g3
    have hwH3 := D3.gr.fh.seq (g13.ff.seq hw)
    lcg_off
    refine ifB (fun c5 => ?_) (fun c5 => ?_)
    · refine iteT ?_
      lcg_off
      exact dr_no k (e0.trans (if_pos (.inr (.inl (bl_f c5))))) D3 g13.ff
    have c5 := bl_t c5
    lcg_off
    refine ifD (fun c6 => ?_) (fun c6 => ?_)
    · have c6 := len_eq c6
      lcg_off
      exact dr_no k (e0.trans (if_pos (.inr (.inr (by omega))))) D3 g13.ff
    have c6 := len_ne c6
    have e : d.takesNeeds ws = some { d with parts := d.parts ++ [ws.getD 1 []] } := by
      refine e0.trans (if_neg ?_)
      rintro (h | h | h)
      · omega
      · rw [c5] at h; cases h
      · omega
    lcg_off
    refine rd_word (i := 1) hwH3 (by omega) ?_
    lcg_off
    refine rd_append hp3 (by rw [List.length_map]; have := D3.wf.pl; exact sz_lt (by omega)) ?_
    lcg_off
    exact dr_yes k e (D3.addPart (takesNeeds_wf D.wf ok.ok e)) g13.ff
end
end Lb

namespace Lb
open PySem L2 Hk
local macro_rules | `(tactic| array_mem_dec) => `(tactic| with_reducible first
  | assumption | exact upd_same
  | (apply upd_new; assumption; array_mem_dec)
  | (apply upd_old; tlg_ne; array_mem_dec)
  | (apply same_at; assumption; array_mem_dec))
local macro_rules | `(tactic| tlg_ne) => `(tactic| with_reducible first
  | assumption | (apply Ne.symm; assumption)
  | (apply ne_new; assumption; array_mem_dec) | (apply ne_new'; assumption; array_mem_dec)
  | (apply ne_of; assumption; assumption; (with_unfolding_all (intro z; cases z; done))))
local macro_rules | `(tactic| decreasing_trivial_pre_omega) => `(tactic| with_reducible first
  | assumption | (apply sqL_of; array_mem_dec) | (apply sqT_of; array_mem_dec)
  | (apply Same.seq; assumption; decreasing_trivial_pre_omega) | (apply sqT_same; assumption; decreasing_trivial_pre_omega)
  | (apply sqL_new; assumption; decreasing_trivial_pre_omega) | (apply sqL_upd; tlg_ne; decreasing_trivial_pre_omega))
local macro_rules | `(tactic| kpt_turns) => `(tactic| with_reducible first
  | assumption | exact Same.refl _ | (apply same_ext; kpt_turns; assumption) | (apply same_mut; kpt_turns; keq_hits) | (apply same_step; assumption; kpt_turns))
local macro_rules | `(tactic| keq_hits) => `(tactic| with_reducible first | assumption | (apply same_none; assumption; keq_hits))
local macro_rules | `(tactic| sizeOf_list_dec) => `(tactic| first | (with_reducible assumption) | (with_reducible_and_instances omega) | (with_unfolding_all decide))
local macro_rules | `(tactic| array_get_dec) => `(tactic| first | (with_reducible assumption) | (apply sz_of; (with_unfolding_all simp); done) | (apply sz_of; omega) | (apply sz_lt; (with_unfolding_all simp); done) | (apply sz_lt; omega))
local macro_rules | `(tactic| keq_rows) => `(tactic| with_reducible first
  | apply rd_asgN | apply rd_seq | apply rd_parA | apply rd_par3A | apply rd_par2 | apply rd_par3 | apply rd_m1 | apply rd_isStr | apply rd_cval | apply rd_asg | apply rd_gname | apply rd_op | (show tVar _ _ _ _; refine rd_var (by with_unfolding_all rfl) ?_) | apply rd_c | apply rd_I0
  | apply rd_cons | apply rd_nil | apply rd_cb | apply rd_test | apply rd_bl | apply rd_fld | apply rd_drop | apply rd_ret | apply rd_retN | apply rd_next
  | apply rd_ifS | apply rd_un | apply rd_B | apply rd_and | apply rd_or | apply rd_not | apply rd_andV | apply rd_orV | apply rd_notV | apply rd_if
  | apply rd_int | apply rd_abs | apply rd_max | apply rd_min | apply rd_strS | apply rd_U
  | apply rd_eqTx | apply rd_neTx | apply rd_inTx | apply rd_notInTx | apply rd_fmt | (show FmtK (.str (tx _)) _ _; refine rd_fmtT (by omega) ?_) | apply rd_jsC | apply rd_jsN | (show JsK _ (tx _) _ (.str (tx _)) _ _; refine rd_JsK (by first | omega | (simp; done) | (simp; omega)) ?_) | (show rAddStr (.str (tx _)) (.str (tx _)) _ _; refine rd_addT (by first | omega | (simp; done) | (simp; omega)) ?_) | (show rLenStr [.str (tx _)] _ _; refine rd_lenTx (by omega) ?_)
  | (show rEq _ _ _ _; refine rd_eq (by with_unfolding_all rfl) ?_) | (show rNe _ _ _ _; refine rd_ne (by with_unfolding_all rfl) ?_) | apply rd_isNone | apply rd_notNone
  | (show rIxL _ _ _ _ _; refine rd_ixL (by decreasing_trivial_pre_omega) (by with_unfolding_all rfl) ?_) | (show rIxT _ _ _ _ _; refine rd_ixT (by decreasing_trivial_pre_omega) (by with_unfolding_all rfl) ?_)
  | (show rLenSeq _ _ _ _; refine rd_lenL (by decreasing_trivial_pre_omega) ?_) | (show rLenSeq _ _ _ _; refine rd_lenT (by decreasing_trivial_pre_omega) ?_)
  | (show rI _ _ _ _ _ _; refine rd_mod (by sizeOf_list_dec) ?_) | (show rI _ _ _ _ _ _; refine rd_div (by sizeOf_list_dec) (by sizeOf_list_dec) ?_) | (show rI _ _ _ _ _ _; refine rd_mulR (by sizeOf_list_dec) (by sizeOf_list_dec) ?_) | (show rI _ _ _ _ _ _; refine rd_mulL (by sizeOf_list_dec) (by sizeOf_list_dec) ?_) | (show rI _ _ _ _ _ _; refine rd_pow (by sizeOf_list_dec) ?_)
  | (show rSetL _ _ _ _ _; refine rd_setL (by array_mem_dec) (by with_unfolding_all rfl) ?_)
  | apply rd_inSign | apply rd_notInSign | apply rd_tupK | apply rd_lstK | apply rd_sl | apply rd_noPart | apply rd_part | apply rd_isInt
  | apply rd_gsub | apply rd_gcons | apply rd_gnil | apply rd_call | apply rd_meth | apply rd_make | apply rd_smeth | apply rd_isC | apply rd_smethK | apply rd_cmeth | apply rd_cmethK
  | apply rd_bm | apply rd_bm0 | (show BmK _ _ _ _ _ _ _ _; refine rd_bmL (by array_mem_dec) ?_) | (show Bm0K _ _ _ _ _ _; refine rd_bm0L (by array_mem_dec) ?_) | apply rd_sfld | apply rd_aug | apply rd_rAdd | apply rd_brk | apply rd_cont
  | apply rd_for | apply rd_iList | (show IList _ _ _ _; refine rd_IList (by decreasing_trivial_pre_omega) ?_) | apply rd_iTup | (show ITup _ _ _ _; refine rd_ITup (by decreasing_trivial_pre_omega) ?_) | apply rd_iEnum | (show IEnum _ _ _ _; refine rd_IEnum (by decreasing_trivial_pre_omega) ?_) | apply rd_iRng1 | (show IRng1 _ _ _; refine rd_IRng1 (by sizeOf_list_dec) (by sizeOf_list_dec) ?_)
  | (show rLenStr _ _ _; refine rd_lenS (by array_get_dec) ?_) | (show rAddStr _ _ _ _; refine rd_addS (by array_get_dec) ?_) | (show rSlS _ _ _ _ _; refine rd_slS (by array_get_dec) ?_) | apply rd_lc | apply rd_yes | (show gTup _ _ _ _ _ _ _; refine rd_gtup (by decreasing_trivial_pre_omega) (by with_unfolding_all rfl) ?_) | (show tMakeL _ _ _ _ _ _ _ _; refine rd_makeL (by with_unfolding_all rfl) ?_))
local macro_rules | `(tactic| kas_types) => `(tactic| with_reducible first | apply rd_isi_int_int | apply rd_isi_int_bool | apply rd_isi_int_str | apply rd_isi_int_list | apply rd_isi_int_tuple | apply rd_isi_bool_int | apply rd_isi_bool_bool | apply rd_isi_bool_str | apply rd_isi_bool_list | apply rd_isi_bool_tuple | apply rd_isi_str_int | apply rd_isi_str_bool | apply rd_isi_str_str | apply rd_isi_str_list | apply rd_isi_str_tuple | (show rIsi _ _ _ _; refine rd_isi_list_int (by array_mem_dec) ?_) | (show rIsi _ _ _ _; refine rd_isi_list_bool (by array_mem_dec) ?_) | (show rIsi _ _ _ _; refine rd_isi_list_str (by array_mem_dec) ?_) | (show rIsi _ _ _ _; refine rd_isi_list_list (by array_mem_dec) ?_) | (show rIsi _ _ _ _; refine rd_isi_list_tuple (by array_mem_dec) ?_) | (show rIsi _ _ _ _; refine rd_isi_tuple_int (by array_mem_dec) ?_) | (show rIsi _ _ _ _; refine rd_isi_tuple_bool (by array_mem_dec) ?_) | (show rIsi _ _ _ _; refine rd_isi_tuple_str (by array_mem_dec) ?_) | (show rIsi _ _ _ _; refine rd_isi_tuple_list (by array_mem_dec) ?_) | (show rIsi _ _ _ _; refine rd_isi_tuple_tuple (by array_mem_dec) ?_) | apply rd_isi_NoneType_int | apply rd_isi_NoneType_bool | apply rd_isi_NoneType_str | apply rd_isi_NoneType_list | apply rd_isi_NoneType_tuple)
local macro_rules | `(tactic| lcg_src) => `(tactic| repeat keq_rows)

local macro_rules | `(tactic| lcg_sub) => `(tactic| with_reducible first | apply rd_chain | refine fldD_name (by assumption) (by array_mem_dec) ?_ | refine fldD_parts (by assumption) (by array_mem_dec) ?_ | refine fldD_keeping (by assumption) (by array_mem_dec) ?_ | refine fldD_root_hook (by assumption) (by array_mem_dec) ?_ | refine fldD_rows (by assumption) (by array_mem_dec) ?_ | refine methD (by array_mem_dec) (by decide +kernel) (by decide +kernel) (by decide +kernel) (by decide +kernel) (by decide +kernel) ?_)
local macro_rules | `(tactic| lcg_off) => `(tactic| repeat (first | keq_rows | lcg_sub))
section
variable {P : Program} {w : World} {K : PySem.W.Frag} {mg : Str → Option Value} {base : Heap} {a : Ad}
/-- [row[0] for row in self.rows] -/
theorem firsts_row {F H : Hp} {pk : Addr} {ks : List V} {rows : List Row3} {Q : VK} {g : TG} {tt : TT} {te : TE} {vs : List Nat} {σ : L2.St} (fh : Same F H) (hk : SqL K H pk ks) (hd : DpAll K H ks (rows.map rowD)) (hl : rows.length ≤ 1000)
    (turn : ∀ (t c : Addr) (q : Row3) H1 (Done : Hp → Prop) (Kept : VK), SqT K H1 t [.str (tx q.sign), .ref c, .str (tx q.maker)] → (∀ H3, Same H1 H3 → Kept (.str (tx q.sign)) H3) → g (.ref t) (wipe σ vs) H1 fun σ2 H2 => wipe σ2 vs = wipe σ vs ∧ tt σ2 H2 fun b H3 => if b = true then te σ2 H3 Kept else Done H3)
    (k : ∀ D H', H D = none → Grow [] F H F H' → H' D = some (.lst ((rows.map (·.sign)).map wd)) → Q (.ref D) H') : LcK (Itl K pk) g tt te vs σ H Q := by
  have hn : ks.length = rows.length := by simpa using hd.length
  refine lcL (rows := rows) hn (by omega) hk (fun _ => true) (fun q => .str (tx q.sign)) (fun i x q H1 hx hr s1 Done Kept hdn hkp => ?_) fun D H' hD s' e => ?_
  · obtain ⟨dd, e1, e2⟩ := hd.get hx
    rw [List.getElem?_map, hr] at e1
    cases e1
    obtain ⟨t, c, rfl, hs, _⟩ := tup3 e2
    exact turn t c q H1 Done Kept (sqT_same s1 hs) fun H3 s3 => hkp H3 s3 rfl
  · refine k D H' hD (Grow.ofSame' fh s') ?_
    rw [e, List.map_map]
    congr 3
    simp
theorem ok_LibraryDraft_takes_keeps (T : Txt K mg a) : FnOk P w K mg base CX0 4 a.f_LibraryDraft_takes_keeps a.fd_LibraryDraft_takes_keeps ["self", "words"]  (sp_dr Draft.takesKeeps a K) := by
  refine T.F_LibraryDraft_takes_keeps.ok sc_LibraryDraft_takes_keeps (fun vs H Q E h => ?_) (fun cdv A outer s H vs Q E hr h => ?_)
  · obtain ⟨_, _, _, _, _, _, _, _, _, _, _, rfl, _⟩ := h
    rfl
  · obtain ⟨F0, H0, F, p, dx, pp, pk, pr, d, ws, wl, rfl, D, hw, ok, k⟩ := h
    refine ⟨_, ((pss_cons (ps_if (PW.pt (pw_or (pt_cmpR op_notNone (pe_fld (pv 0) rfl) pe_non (nomark _)) (pw_or (pt_cmpR (op_neD hr.units) (pe_fld (pv 0) rfl) (pe_lst pa_nil) (nomark _)) (pw_or1 (pt_cmpR op_eq (pe_callB call_lenSeq (by rfl) T.n_len (by decide +kernel) (pa_cons (pe_fld (pv 0) rfl) pa_nil)) (pe_glob (v := .int 2) rfl T.g_MOST_KEPT ⟨_, rfl⟩) (nomark _))))))
 (pss_one (ps_ret pe_bl))
 pss_nil)
 (pss_cons (ps_if (PW.pt (pw_or (pt_cmpR op_ne (pe_callB call_lenSeq (by rfl) T.n_len (by decide +kernel) (pa_cons (pv 1) pa_nil)) pe_int (nomark _)) (pw_or (pt_cmpR op_ne (pe_ix ix_list (pv 1) pe_int (fun _ _ => rfl)) pe_str (nomark _)) (pw_or1 (pt_not (pt_val (pe_meth (pv 0) T.cl_LibraryDraft T.m_LibraryDraft_is_new (ok_LibraryDraft_is_new T) hr T.b_LibraryDraft_is_new .nil pass0 (pa_cons (pe_ix ix_list (pv 1) pe_int (fun _ _ => rfl)) pa_nil))))))))
 (pss_one (ps_ret pe_bl))
 pss_nil)
 (pss_cons (ps_if (PW.pt (pw_and (pt_cmpR op_notIn_seq (pe_ix ix_list (pv 1) pe_int (fun _ _ => rfl)) (pe_fld (pv 0) rfl) (by rfl)) (pw_and1 (pt_cmpR op_notIn_seq (pe_ix ix_list (pv 1) pe_int (fun _ _ => rfl)) (pe_lc (own := [("row", 2)]) (g := gName 2) (tt := tYes) rfl sc_LibraryDraft_takes_keeps.nd (pi_list (pe_fld (pv 0) rfl)) (blkOk_by (own := [("row", 2)]) (N := ["self", "words", "row"]) (sc := defScope s_LibraryDraft_takes_keeps) (by decide +kernel)) (fun _ _ _ _ _ => (pg_name (i := 2) sc_LibraryDraft_takes_keeps.nd rfl (Or.inl rfl))) (fun _ _ _ _ _ => pts_nil) (fun _ _ _ _ _ => (pe_ix (ix_tupK (K := K)) (pv 2) pe_int (fun _ _ => rfl)))) (by rfl)))))
 (pss_one (ps_ret pe_bl))
 pss_nil)
 (pss_cons (ps_expr (pe_bm PySem.F.plainAttrs_list PySem.F.slot_list_append PySem.F.type_list_append mt_append (pe_fld (pv 0) rfl) (pa_cons (pe_tup (pa_cons (pe_ix ix_list (pv 1) pe_int (fun _ _ => rfl)) (pa_cons (pe_ix ix_list (pv 1) pe_int (fun _ _ => rfl)) pa_nil))) pa_nil)))
 (pss_one (ps_ret pe_bl))))))), ?_⟩
    try simp only [cxK, of_tx]
    have hs := D.me.h
    lcg_off
    rw [hookV_not]
    refine ifB (fun c1 => ?_) (fun c1 => ?_)
    · refine iteT ?_
      lcg_off
      exact dr_no k (if_pos (.inl (by intro z; rw [z] at c1; cases c1))) D (Same.refl _)
    have c1' : d.hook = none := by cases z : d.hook with | none => rfl | some x => rw [z] at c1; cases c1
    lcg_off
    refine newL D.gr.fh fun F1 H1 l1 g1 n1 e1 => ?_
    have D1 := D.beside g1
    have hs1 := D1.me.h
    obtain ⟨ks, hk1, hk2⟩ := D1.ke
    have hkh := hk1.h
    refine D1.neR (g1.fh _ _ e1) ?_
    lcg_off
    refine ifN (fun c2 => ?_) (fun c2 => ?_)
    · refine iteT ?_
      lcg_off
      exact dr_no k (if_pos (.inr (.inl c2))) D1 g1.ff
    lcg_off
    refine ifD (fun c3 => ?_) (fun c3 => ?_)
    · have c3 := lenD_eq hk2 c3
      lcg_off
      exact dr_no k (if_pos (.inr (.inr (by omega)))) D1 g1.ff
    have c3 := lenD_ne hk2 c3
    have e0 : d.takesKeeps ws = if ws.length ≠ 4 ∨ ws.getD 2 [] ≠ wOf ∨ d.isNew (ws.getD 1 []) = false then none else
        if ws.getD 3 [] ∉ d.parts ∧ ws.getD 3 [] ∉ d.keeping.map (·.1) then none else some { d with keeping := d.keeping ++ [(ws.getD 1 [], ws.getD 3 [])] } := by
      refine if_neg ?_
      rintro (h | h | h)
      · exact h c1'
      · exact h c2
      · omega
    have hwH := D1.gr.fh.seq (g1.ff.seq hw)
    lcg_off
    refine ifN (fun c4 => ?_) (fun c4 => ?_)
    · have c4 := len_ne c4
      refine iteT ?_
      lcg_off
      exact dr_no k (e0.trans (if_pos (.inl (by omega)))) D1 g1.ff
    have c4 := len_eq c4
    lcg_off
    refine rd_word (i := 2) hwH (by omega) ?_
    lcg_off
    refine ifN (fun c5 => ?_) (fun c5 => ?_)
    · refine iteT ?_
      lcg_off
      exact dr_no k (e0.trans (if_pos (.inr (.inl c5)))) D1 g1.ff
    lcg_off
    refine rd_word (i := 1) hwH (by omega) ?_
    lcg_off
    refine ⟨F0, H0, F1, p, dx, pp, pk, pr, d, _, rfl, D1, ok.getL 1, fun F3 H3 D3 g3 => ?_⟩
    have hs3 := D3.me.h
    have hp3 := D3.pa.h
    have g13 := g1.trans g3
    have hwH3 := D3.gr.fh.seq (g13.ff.seq hw)
    lcg_off
    refine ifB (fun c6 => ?_) (fun c6 => ?_)
    · lcg_off
      exact dr_no k (e0.trans (if_pos (.inr (.inr (bl_f c6))))) D3 g13.ff
    have c6 := bl_t c6
    have e2 : d.takesKeeps ws = if ws.getD 3 [] ∉ d.parts ∧ ws.getD 3 [] ∉ d.keeping.map (·.1) then none else some { d with keeping := d.keeping ++ [(ws.getD 1 [], ws.getD 3 [])] } := by
      refine e0.trans (if_neg ?_)
      rintro (h | h | h)
      · omega
      · exact h c5
      · rw [c6] at h; cases h
    obtain ⟨ks3, hk31, hk32⟩ := D3.ke
    have hkh3 := hk31.h
    have hkl : ks3.length = d.keeping.length := by simpa using hk32.length
    have fin : ∀ (F4 H4 : Hp), DAt a K F0 H0 F4 H4 p dx pp pk pr d → Grow [] F3 H3 F4 H4 → ¬ (ws.getD 3 [] ∉ d.parts ∧ ws.getD 3 [] ∉ d.keeping.map (·.1)) → ∀ (v : V), Dp K F4 v (keepD (ws.getD 1 [], ws.getD 3 [])) → H4 pk = some (.lst ks3) → Q (.bl true) (upd H4 pk (.lst (ks3 ++ [v]))) := by
      intro F4 H4 D4 g4 hn v hv hk
      have e : d.takesKeeps ws = some { d with keeping := d.keeping ++ [(ws.getD 1 [], ws.getD 3 [])] } := e2.trans (if_neg hn)
      exact dr_yes k e (D4.addKeep hk hv (takesKeeps_wf D.wf ok.ok e)) (g13.trans g4).ff
    have app : ∀ (F4 H4 : Hp), DAt a K F0 H0 F4 H4 p dx pp pk pr d → Grow [] F3 H3 F4 H4 → ¬ (ws.getD 3 [] ∉ d.parts ∧ ws.getD 3 [] ∉ d.keeping.map (·.1)) → H4 pk = some (.lst ks3) →
        TupK [.str (tx (ws.getD 1 [])), .str (tx (ws.getD 3 []))] H4 fun v H5 => rAppend (.ref pk) [v] H5 fun _ H6 => Q (.bl true) H6 := by
      intro F4 H4 D4 g4 hn hk
      refine newTD (K := K) (ds := [wdD (ws.getD 1 []), wdD (ws.getD 3 [])]) D4.gr.fh (.cons (.str _) (.cons (.str _) .nil)) fun F5 H5 t g5 n5 e5 => ?_
      refine rd_append (g5.same _ _ hk) (by rw [hkl]; have := D.wf.kl; exact sz_lt (by omega)) ?_
      exact fin F5 H5 (D4.beside g5) (g4.trans g5) hn _ e5 (g5.same _ _ hk)
    lcg_off
    refine rd_word (i := 3) hwH3 (by omega) ?_
    lcg_off
    refine rd_notInWL (sqL_of hp3) ?_
    lcg_off
    refine ifN (fun c7 => ?_) (fun c7 => ?_)
    · lcg_off
      refine rd_word (i := 3) hwH3 (by omega) ?_
      lcg_off
      refine firsts_keep D3.gr.fh hkh3 (hk32.mono D3.gr.fh) (Nat.le_trans D3.wf.kl (by decide)) (fun t q H2 Done Kept ht hk => ?_) fun L H4 hL g4 e4 => ?_
      · lcg_off
        refine ⟨rfl, ?_⟩
        lcg_off
        refine iteT ?_
        lcg_off
        exact hk _ (Same.refl _)
      · have D4 := D3.beside g4
        have hs4 := D4.me.h
        have hwH4 := D4.gr.fh.seq (g4.ff.seq (g13.ff.seq hw))
        have hkh4 := g4.same _ _ hkh3
        refine rd_notInWL (sqL_of e4) ?_
        lcg_off
        refine ifN (fun c8 => ?_) (fun c8 => ?_)
        · lcg_off
          exact dr_no k (e2.trans (if_pos ⟨c7, c8⟩)) D4 (g13.trans g4).ff
        · lcg_off
          refine rd_word (i := 1) hwH4 (by omega) ?_
          lcg_off
          refine rd_word (i := 3) hwH4 (by omega) ?_
          lcg_off
          exact app F3 H4 D4 g4 (fun z => z.2 c8) hkh4
    · refine iteF ?_
      lcg_off
      refine rd_word (i := 1) hwH3 (by omega) ?_
      lcg_off
      refine rd_word (i := 3) hwH3 (by omega) ?_
      lcg_off
      exact app F3 H3 D3 (Grow.refl D3.gr.fh) (fun z => z.1 c7) hkh3
theorem ok_LibraryDraft_takes_hook (T : Txt K mg a) : FnOk P w K mg base CX0 1 a.f_LibraryDraft_takes_hook a.fd_LibraryDraft_takes_hook ["self", "words"]  (sp_dr Draft.takesHook a K) := by
  refine T.F_LibraryDraft_takes_hook.ok sc_LibraryDraft_takes_hook (fun vs H Q E h => ?_) (fun cdv A outer s H vs Q E hr h => ?_)
  · obtain ⟨_, _, _, _, _, _, _, _, _, _, _, rfl, _⟩ := h
    rfl
  · obtain ⟨F0, H0, F, p, dx, pp, pk, pr, d, ws, wl, rfl, D, hw, ok, k⟩ := h
    refine ⟨_, ((pss_cons (ps_if (PW.pt (pw_or (pt_cmpR op_notNone (pe_fld (pv 0) rfl) pe_non (nomark _)) (pw_or (pt_cmpR (op_neD hr.units) (pe_fld (pv 0) rfl) (pe_lst pa_nil) (nomark _)) (pw_or1 (pt_cmpR op_ne (pe_callB call_lenSeq (by rfl) T.n_len (by decide +kernel) (pa_cons (pv 1) pa_nil)) pe_int (nomark _))))))
 (pss_one (ps_ret pe_bl))
 pss_nil)
 (pss_cons (ps_if (PW.pt (pw_and (pt_cmpR op_notIn_seq (pe_ix ix_list (pv 1) pe_int (fun _ _ => rfl)) (pe_glob (v := .ref _) rfl T.g_HOOKS rfl) (by rfl)) (pw_and1 (pt_cmpR op_ne (pe_ix ix_list (pv 1) pe_int (fun _ _ => rfl)) pe_str (nomark _)))))
 (pss_one (ps_ret pe_bl))
 pss_nil)
 (pss_cons (ps_fld (pv 0) (pe_ix ix_list (pv 1) pe_int (fun _ _ => rfl)) rfl)
 (pss_one (ps_ret pe_bl)))))), ?_⟩
    try simp only [cxK, bare_tx]
    have hs := D.me.h
    lcg_off
    rw [hookV_not]
    refine ifB (fun c1 => ?_) (fun c1 => ?_)
    · refine iteT ?_
      lcg_off
      exact dr_no k (if_pos (.inl (by intro z; rw [z] at c1; cases c1))) D (Same.refl _)
    have c1' : d.hook = none := by cases z : d.hook with | none => rfl | some x => rw [z] at c1; cases c1
    lcg_off
    refine newL D.gr.fh fun F1 H1 l1 g1 n1 e1 => ?_
    have D1 := D.beside g1
    have hs1 := D1.me.h
    refine D1.neR (g1.fh _ _ e1) ?_
    lcg_off
    refine ifN (fun c2 => ?_) (fun c2 => ?_)
    · refine iteT ?_
      lcg_off
      exact dr_no k (if_pos (.inr (.inl c2))) D1 g1.ff
    have hwH := D1.gr.fh.seq (g1.ff.seq hw)
    lcg_off
    refine ifN (fun c3 => ?_) (fun c3 => ?_)
    · have c3 := len_ne c3
      lcg_off
      exact dr_no k (if_pos (.inr (.inr (by omega)))) D1 g1.ff
    have c3 := len_eq c3
    have e0 : d.takesHook ws = if ws.getD 1 [] ∉ hooks ∧ ws.getD 1 [] ≠ wBare then none else some { d with hook := some (ws.getD 1 []) } := by
      refine if_neg ?_
      rintro (h | h | h)
      · exact h c1'
      · exact h c2
      · omega
    lcg_off
    refine rd_word (i := 1) hwH (by omega) ?_
    lcg_off
    refine rd_notInWT (T.hookT _) ?_
    lcg_off
    have fin : ¬ (ws.getD 1 [] ∉ hooks ∧ ws.getD 1 [] ≠ wBare) → Q (.bl true) (upd H1 p (.ins a.C_LibraryDraft dx (fD (.str (tx d.name)) (.ref pp) (.ref pk) (.str (tx (ws.getD 1 []))) (.ref pr)))) := by
      intro hn
      have e : d.takesHook ws = some { d with hook := some (ws.getD 1 []) } := e0.trans (if_neg hn)
      exact dr_yes k e (D1.setHook (takesHook_wf D.wf e)) g1.ff
    refine ifN (fun c4 => ?_) (fun c4 => ?_)
    · lcg_off
      refine rd_word (i := 1) hwH (by omega) ?_
      lcg_off
      refine ifN (fun c5 => ?_) (fun c5 => ?_)
      · lcg_off
        exact dr_no k (e0.trans (if_pos ⟨c4, c5⟩)) D1 g1.ff
      · lcg_off
        refine rd_word (i := 1) hwH (by omega) ?_
        lcg_off
        refine rd_sfldK hs1 T.cl_LibraryDraft T.no_LibraryDraft_root_hook (by show 5 < 1000; decide) ?_
        rw [fD_put_root_hook]
        lcg_off
        exact fin fun z => z.2 c5
    · refine iteF ?_
      lcg_off
      refine rd_word (i := 1) hwH (by omega) ?_
      lcg_off
      refine rd_sfldK hs1 T.cl_LibraryDraft T.no_LibraryDraft_root_hook (by show 5 < 1000; decide) ?_
      rw [fD_put_root_hook]
      lcg_off
      exact fin fun z => z.1 c4
def sp_LibraryDraft_takes_row (a : Ad) (K : PySem.W.Frag) : Sp := fun vs H Q _ => ∃ (F0 H0 F : Hp) (p dx pp pk pr : Addr) (d : Draft) (s m : Wd) (ch : List Wd) (c : Addr), vs = [.ref p, .str (tx s), .ref c, .str (tx m)] ∧ DAt a K F0 H0 F H p dx pp pk pr d ∧ SqT K F c (ch.map wd) ∧ OkW 8 s ∧ ch.length ≤ 3 ∧ (∀ w ∈ ch, OkW 8 w) ∧
  DrPost a K F0 H0 F p dx pp pk pr d (d.takesRow s ch m) Q
theorem arityN_le (s : Wd) : arityN s ≤ 2 := by
  unfold arityN
  split
  · omega
  · split <;> omega
theorem ok_LibraryDraft_takes_row (T : Txt K mg a) : FnOk P w K mg base CX0 2 a.f_LibraryDraft_takes_row a.fd_LibraryDraft_takes_row ["self", "sign", "changed", "maker"]  (sp_LibraryDraft_takes_row a K) := by
  refine T.F_LibraryDraft_takes_row.ok sc_LibraryDraft_takes_row (fun vs H Q E h => ?_) (fun cdv A outer s H vs Q E hr h => ?_)
  · obtain ⟨_, _, _, _, _, _, _, _, _, _, _, _, _, rfl, _⟩ := h
    rfl
  · obtain ⟨F0, H0, F, p, dx, pp, pk, pr, d, sg, m, ch, c, rfl, D, hc, o1, o2, o3, k⟩ := h
    refine ⟨_, ((pss_cons (ps_if (PW.pt (pw_or (pt_cmpR op_in_seq (pv 1) (pe_lc (own := [("row", 4)]) (g := gName 4) (tt := tYes) rfl sc_LibraryDraft_takes_row.nd (pi_list (pe_fld (pv 0) rfl)) (blkOk_by (own := [("row", 4)]) (N := ["self", "sign", "changed", "maker", "row"]) (sc := defScope s_LibraryDraft_takes_row) (by decide +kernel)) (fun _ _ _ _ _ => (pg_name (i := 4) sc_LibraryDraft_takes_row.nd rfl (Or.inl rfl))) (fun _ _ _ _ _ => pts_nil) (fun _ _ _ _ _ => (pe_ix (ix_tupK (K := K)) (pv 4) pe_int (fun _ _ => rfl)))) (by rfl)) (pw_or1 (pt_cmpR op_eq (pe_callB call_lenSeq (by rfl) T.n_len (by decide +kernel) (pa_cons (pe_fld (pv 0) rfl) pa_nil)) (pe_glob (v := .int 6) rfl T.g_MOST_OPERATIONS ⟨_, rfl⟩) (nomark _)))))
 (pss_one (ps_ret pe_bl))
 pss_nil)
 (pss_cons (ps_if (pt_cmpR op_notIn_seq (pv 3) (pe_call (ok_makers_for T) hr rfl T.g_makers_for T.F_makers_for.kp T.b_makers_for .nil pass0 (pa_cons (pe_call (ok_arity_of T) hr rfl T.g_arity_of T.F_arity_of.kp T.b_arity_of .nil pass0 (pa_cons (pv 1) pa_nil)) (pa_cons (pe_cmpR op_notNone (pe_fld (pv 0) rfl) pe_non (nomark _)) pa_nil))) (by rfl))
 (pss_one (ps_ret pe_bl))
 pss_nil)
 (pss_cons (ps_expr (pe_bm PySem.F.plainAttrs_list PySem.F.slot_list_append PySem.F.type_list_append mt_append (pe_fld (pv 0) rfl) (pa_cons (pe_tup (pa_cons (pv 1) (pa_cons (pv 2) (pa_cons (pv 3) pa_nil)))) pa_nil)))
 (pss_one (ps_ret pe_bl)))))), ?_⟩
    try simp only [cxK]
    have hs := D.me.h
    obtain ⟨rs, hr1, hr2⟩ := D.ro
    have hrh := hr1.h
    have hrl : rs.length = d.rows.length := by simpa using hr2.length
    lcg_off
    refine firsts_row D.gr.fh (sqL_of hrh) (hr2.mono D.gr.fh) (Nat.le_trans D.wf.rl (by decide)) (fun t c q H2 Done Kept ht hk => ?_) fun L H1 hL g1 e1 => ?_
    · lcg_off
      refine ⟨rfl, ?_⟩
      lcg_off
      refine iteT ?_
      lcg_off
      exact hk _ (Same.refl _)
    have D1 := D.beside g1
    have hs1 := D1.me.h
    have hrh1 := g1.same _ _ hrh
    refine rd_inWL (sqL_of e1) ?_
    lcg_off
    refine ifD (fun c1 => ?_) (fun c1 => ?_)
    · refine iteT ?_
      lcg_off
      exact dr_no k (if_pos (.inl c1)) D1 g1.ff
    lcg_off
    refine ifD (fun c2 => ?_) (fun c2 => ?_)
    · have c2 := lenD_eq hr2 c2
      lcg_off
      exact dr_no k (if_pos (.inr (by omega))) D1 g1.ff
    have c2 := lenD_ne hr2 c2
    have e0 : d.takesRow sg ch m = if m ∉ mkFor (arityN sg) d.hook.isSome then none else some { d with rows := d.rows ++ [⟨sg, ch, m⟩] } := by
      refine if_neg ?_
      rintro (h | h)
      · exact c1 h
      · omega
    lcg_off
    refine ⟨sg, rfl, ?_⟩
    lcg_off
    rw [hookV_not]
    refine ⟨F, arityN sg, d.hook.isSome, rfl, arityN_le _, g1.fh, fun F2 H2 q g2 n2 h2 => ?_⟩
    have D2 := D1.beside g2
    have hs2 := D2.me.h
    have hrh2 := g2.same _ _ hrh1
    have g12 := g1.trans g2
    lcg_off
    refine rd_notInWL (sqL_of h2.h) ?_
    lcg_off
    refine ifN (fun c3 => ?_) (fun c3 => ?_)
    · lcg_off
      exact dr_no k (e0.trans (if_pos c3)) D2 g12.ff
    have e : d.takesRow sg ch m = some { d with rows := d.rows ++ [⟨sg, ch, m⟩] } := e0.trans (if_neg fun z => z c3)
    lcg_off
    refine newTD (K := K) (ds := [wdD sg, .tuple (ch.map wdD), wdD m]) D2.gr.fh (.cons (.str _) (.cons (.tup (sqT_same g12.ff hc) (wd_dp ch)) (.cons (.str _) .nil))) fun F3 H3 t g3 n3 e3 => ?_
    have g13 := g12.trans g3
    lcg_off
    refine rd_append (g3.same _ _ hrh2) (by rw [hrl]; have := D.wf.rl; exact sz_lt (by omega)) ?_
    lcg_off
    exact dr_yes k e ((D2.beside g3).addRow (g3.same _ _ hrh2) e3 (takesRow_wf D.wf o1 o2 o3 e)) g13.ff
end
end Lb

namespace Lb
open PySem L2 Hk
local macro_rules | `(tactic| array_mem_dec) => `(tactic| with_reducible first
  | assumption | exact upd_same
  | (apply upd_new; assumption; array_mem_dec)
  | (apply upd_old; tlg_ne; array_mem_dec)
  | (apply same_at; assumption; array_mem_dec))
local macro_rules | `(tactic| tlg_ne) => `(tactic| with_reducible first
  | assumption | (apply Ne.symm; assumption)
  | (apply ne_new; assumption; array_mem_dec) | (apply ne_new'; assumption; array_mem_dec)
  | (apply ne_of; assumption; assumption; (with_unfolding_all (intro z; cases z; done))))
local macro_rules | `(tactic| decreasing_trivial_pre_omega) => `(tactic| with_reducible first
  | assumption | (apply sqL_of; array_mem_dec) | (apply sqT_of; array_mem_dec)
  | (apply Same.seq; assumption; decreasing_trivial_pre_omega) | (apply sqT_same; assumption; decreasing_trivial_pre_omega)
  | (apply sqL_new; assumption; decreasing_trivial_pre_omega) | (apply sqL_upd; tlg_ne; decreasing_trivial_pre_omega))
local macro_rules | `(tactic| kpt_turns) => `(tactic| with_reducible first
  | assumption | exact Same.refl _ | (apply same_ext; kpt_turns; assumption) | (apply same_mut; kpt_turns; keq_hits) | (apply same_step; assumption; kpt_turns))
local macro_rules | `(tactic| keq_hits) => `(tactic| with_reducible first | assumption | (apply same_none; assumption; keq_hits))
local macro_rules | `(tactic| sizeOf_list_dec) => `(tactic| first | (with_reducible assumption) | (with_reducible_and_instances omega) | (with_unfolding_all decide))
local macro_rules | `(tactic| array_get_dec) => `(tactic| first | (with_reducible assumption) | (apply sz_of; (with_unfolding_all simp); done) | (apply sz_of; omega) | (apply sz_lt; (with_unfolding_all simp); done) | (apply sz_lt; omega))
local macro_rules | `(tactic| keq_rows) => `(tactic| with_reducible first
  | apply rd_asgN | apply rd_seq | apply rd_parA | apply rd_par3A | apply rd_par2 | apply rd_par3 | apply rd_m1 | apply rd_isStr | apply rd_cval | apply rd_asg | apply rd_gname | apply rd_op | (show tVar _ _ _ _; refine rd_var (by with_unfolding_all rfl) ?_) | apply rd_c | apply rd_I0
  | apply rd_cons | apply rd_nil | apply rd_cb | apply rd_test | apply rd_bl | apply rd_fld | apply rd_drop | apply rd_ret | apply rd_retN | apply rd_next
  | apply rd_ifS | apply rd_un | apply rd_B | apply rd_and | apply rd_or | apply rd_not | apply rd_andV | apply rd_orV | apply rd_notV | apply rd_if
  | apply rd_int | apply rd_abs | apply rd_max | apply rd_min | apply rd_strS | apply rd_U
  | apply rd_eqTx | apply rd_neTx | apply rd_inTx | apply rd_notInTx | apply rd_fmt | (show FmtK (.str (tx _)) _ _; refine rd_fmtT (by omega) ?_) | apply rd_jsC | apply rd_jsN | (show JsK _ (tx _) _ (.str (tx _)) _ _; refine rd_JsK (by first | omega | (simp; done) | (simp; omega)) ?_) | (show rAddStr (.str (tx _)) (.str (tx _)) _ _; refine rd_addT (by first | omega | (simp; done) | (simp; omega)) ?_) | (show rLenStr [.str (tx _)] _ _; refine rd_lenTx (by omega) ?_)
  | (show rEq _ _ _ _; refine rd_eq (by with_unfolding_all rfl) ?_) | (show rNe _ _ _ _; refine rd_ne (by with_unfolding_all rfl) ?_) | apply rd_isNone | apply rd_notNone
  | (show rIxL _ _ _ _ _; refine rd_ixL (by decreasing_trivial_pre_omega) (by with_unfolding_all rfl) ?_) | (show rIxT _ _ _ _ _; refine rd_ixT (by decreasing_trivial_pre_omega) (by with_unfolding_all rfl) ?_)
  | (show rLenSeq _ _ _ _; refine rd_lenL (by decreasing_trivial_pre_omega) ?_) | (show rLenSeq _ _ _ _; refine rd_lenT (by decreasing_trivial_pre_omega) ?_)
  | (show rI _ _ _ _ _ _; refine rd_mod (by sizeOf_list_dec) ?_) | (show rI _ _ _ _ _ _; refine rd_div (by sizeOf_list_dec) (by sizeOf_list_dec) ?_) | (show rI _ _ _ _ _ _; refine rd_mulR (by sizeOf_list_dec) (by sizeOf_list_dec) ?_) | (show rI _ _ _ _ _ _; refine rd_mulL (by sizeOf_list_dec) (by sizeOf_list_dec) ?_) | (show rI _ _ _ _ _ _; refine rd_pow (by sizeOf_list_dec) ?_)
  | (show rSetL _ _ _ _ _; refine rd_setL (by array_mem_dec) (by with_unfolding_all rfl) ?_)
  | apply rd_inSign | apply rd_notInSign | apply rd_tupK | apply rd_lstK | apply rd_sl | apply rd_noPart | apply rd_part | apply rd_isInt
  | apply rd_gsub | apply rd_gcons | apply rd_gnil | apply rd_call | apply rd_meth | apply rd_make | apply rd_smeth | apply rd_isC | apply rd_smethK | apply rd_cmeth | apply rd_cmethK
  | apply rd_bm | apply rd_bm0 | (show BmK _ _ _ _ _ _ _ _; refine rd_bmL (by array_mem_dec) ?_) | (show Bm0K _ _ _ _ _ _; refine rd_bm0L (by array_mem_dec) ?_) | apply rd_sfld | apply rd_aug | apply rd_rAdd | apply rd_brk | apply rd_cont
  | apply rd_for | apply rd_iList | (show IList _ _ _ _; refine rd_IList (by decreasing_trivial_pre_omega) ?_) | apply rd_iTup | (show ITup _ _ _ _; refine rd_ITup (by decreasing_trivial_pre_omega) ?_) | apply rd_iEnum | (show IEnum _ _ _ _; refine rd_IEnum (by decreasing_trivial_pre_omega) ?_) | apply rd_iRng1 | (show IRng1 _ _ _; refine rd_IRng1 (by sizeOf_list_dec) (by sizeOf_list_dec) ?_)
  | (show rLenStr _ _ _; refine rd_lenS (by array_get_dec) ?_) | (show rAddStr _ _ _ _; refine rd_addS (by array_get_dec) ?_) | (show rSlS _ _ _ _ _; refine rd_slS (by array_get_dec) ?_) | apply rd_lc | apply rd_yes | (show gTup _ _ _ _ _ _ _; refine rd_gtup (by decreasing_trivial_pre_omega) (by with_unfolding_all rfl) ?_) | (show tMakeL _ _ _ _ _ _ _ _; refine rd_makeL (by with_unfolding_all rfl) ?_))
local macro_rules | `(tactic| kas_types) => `(tactic| with_reducible first | apply rd_isi_int_int | apply rd_isi_int_bool | apply rd_isi_int_str | apply rd_isi_int_list | apply rd_isi_int_tuple | apply rd_isi_bool_int | apply rd_isi_bool_bool | apply rd_isi_bool_str | apply rd_isi_bool_list | apply rd_isi_bool_tuple | apply rd_isi_str_int | apply rd_isi_str_bool | apply rd_isi_str_str | apply rd_isi_str_list | apply rd_isi_str_tuple | (show rIsi _ _ _ _; refine rd_isi_list_int (by array_mem_dec) ?_) | (show rIsi _ _ _ _; refine rd_isi_list_bool (by array_mem_dec) ?_) | (show rIsi _ _ _ _; refine rd_isi_list_str (by array_mem_dec) ?_) | (show rIsi _ _ _ _; refine rd_isi_list_list (by array_mem_dec) ?_) | (show rIsi _ _ _ _; refine rd_isi_list_tuple (by array_mem_dec) ?_) | (show rIsi _ _ _ _; refine rd_isi_tuple_int (by array_mem_dec) ?_) | (show rIsi _ _ _ _; refine rd_isi_tuple_bool (by array_mem_dec) ?_) | (show rIsi _ _ _ _; refine rd_isi_tuple_str (by array_mem_dec) ?_) | (show rIsi _ _ _ _; refine rd_isi_tuple_list (by array_mem_dec) ?_) | (show rIsi _ _ _ _; refine rd_isi_tuple_tuple (by array_mem_dec) ?_) | apply rd_isi_NoneType_int | apply rd_isi_NoneType_bool | apply rd_isi_NoneType_str | apply rd_isi_NoneType_list | apply rd_isi_NoneType_tuple)
local macro_rules | `(tactic| lcg_src) => `(tactic| repeat keq_rows)

local macro_rules | `(tactic| lcg_sub) => `(tactic| with_reducible first | apply rd_chain | refine fldD_name (by assumption) (by array_mem_dec) ?_ | refine fldD_parts (by assumption) (by array_mem_dec) ?_ | refine fldD_keeping (by assumption) (by array_mem_dec) ?_ | refine fldD_root_hook (by assumption) (by array_mem_dec) ?_ | refine fldD_rows (by assumption) (by array_mem_dec) ?_ | refine methD (by array_mem_dec) (by decide +kernel) (by decide +kernel) (by decide +kernel) (by decide +kernel) (by decide +kernel) ?_)
local macro_rules | `(tactic| lcg_off) => `(tactic| repeat (first | keq_rows | lcg_sub))
theorem join_b {ws : List Wd} (h : (ws.map (·.length)).sum + ws.length ≤ 10000) (i : Nat) : ((ws.drop i).map (·.length)).sum + (ws.drop i).length * ([32] : List Nat).length ≤ 100000 := by
  have := sum_drop ws i
  simp only [List.length_singleton, Nat.mul_one]
  omega
section
variable {P : Program} {w : World} {K : PySem.W.Frag} {mg : Str → Option Value} {base : Heap} {a : Ad}
theorem ok_LibraryDraft_takes_request (T : Txt K mg a) : FnOk P w K mg base CX0 3 a.f_LibraryDraft_takes_request a.fd_LibraryDraft_takes_request ["self", "words"]  (sp_dr Draft.takesRequest a K) := by
  refine T.F_LibraryDraft_takes_request.ok sc_LibraryDraft_takes_request (fun vs H Q E h => ?_) (fun cdv A outer s H vs Q E hr h => ?_)
  · obtain ⟨_, _, _, _, _, _, _, _, _, _, _, rfl, _⟩ := h
    rfl
  · obtain ⟨F0, H0, F, p, dx, pp, pk, pr, d, ws, wl, rfl, D, hw, ok, k⟩ := h
    refine ⟨_, ((pss_cons (ps_if (PW.pt (pw_or (pt_cmpR op_lt (pe_callB call_lenSeq (by rfl) T.n_len (by decide +kernel) (pa_cons (pv 1) pa_nil)) pe_int (nomark _)) (pw_or (pt_cmpR op_ne (pe_ix ix_list (pv 1) pe_int (fun _ _ => rfl)) pe_str (nomark _)) (pw_or (pt_not (pt_val (pe_call (ok_is_word T) (hr.mono (by decide)) rfl T.g_is_word T.F_is_word.kp T.b_is_word .nil pass0 (pa_cons (pe_ix ix_list (pv 1) pe_int (fun _ _ => rfl)) pa_nil)))) (pw_or1 (pt_cmpR op_in_seq (pe_ix ix_list (pv 1) pe_int (fun _ _ => rfl)) (pe_glob (v := .ref _) rfl T.g_UNARY_SIGNS rfl) (by rfl)))))))
 (pss_one (ps_ret pe_bl))
 pss_nil)
 (pss_one (ps_ret (pe_meth (pv 0) T.cl_LibraryDraft T.m_LibraryDraft_takes_row (ok_LibraryDraft_takes_row T) hr T.b_LibraryDraft_takes_row .nil pass0 (pa_cons (pe_ix ix_list (pv 1) pe_int (fun _ _ => rfl)) (pa_cons (pe_callTy call_tupOf (by rfl) T.n_tuple (by decide +kernel) (pa_cons (pe_fld (pv 0) rfl) pa_nil)) (pa_cons (pe_joinR (K := K) pe_str (pe_slice sl_list (pv 1) (po_some pe_int) po_none)) pa_nil)))))))), ?_⟩
    try simp only [cxK, by_tx, space_tx]
    have hs := D.me.h
    have hwH := D.gr.fh.seq hw
    lcg_off
    refine ifD (fun c1 => ?_) (fun c1 => ?_)
    · rw [List.length_map] at c1
      refine iteT ?_
      lcg_off
      exact dr_no k (if_pos (.inl (by omega))) D (Same.refl _)
    rw [List.length_map] at c1
    lcg_off
    refine rd_word (i := 2) hwH (by omega) ?_
    lcg_off
    refine ifN (fun c2 => ?_) (fun c2 => ?_)
    · refine iteT ?_
      lcg_off
      exact dr_no k (if_pos (.inr (.inl c2))) D (Same.refl _)
    lcg_off
    refine rd_word (i := 1) hwH (by omega) ?_
    lcg_off
    refine ⟨F, ws.getD 1 [], rfl, D.gr.fh, ok.getL 1, fun F1 H1 g1 => ?_⟩
    have D1 := D.beside g1
    have hs1 := D1.me.h
    have hp1 := D1.pa.h
    have hwH1 := D1.gr.fh.seq (g1.ff.seq hw)
    lcg_off
    refine ifB (fun c3 => ?_) (fun c3 => ?_)
    · refine iteT ?_
      lcg_off
      exact dr_no k (if_pos (.inr (.inr (.inl (bl_f c3))))) D1 g1.ff
    have c3 := bl_t c3
    lcg_off
    refine rd_word (i := 1) hwH1 (by omega) ?_
    lcg_off
    refine rd_inWT (T.unT _) ?_
    lcg_off
    refine ifD (fun c4 => ?_) (fun c4 => ?_)
    · lcg_off
      exact dr_no k (if_pos (.inr (.inr (.inr c4)))) D1 g1.ff
    have e0 : d.takesRequest ws = d.takesRow (ws.getD 1 []) d.parts (spaced (ws.drop 3)) := by
      refine if_neg ?_
      rintro (h | h | h | h)
      · omega
      · exact h c2
      · rw [c3] at h; cases h
      · exact c4 h
    lcg_off
    refine rd_word (i := 1) hwH1 (by omega) ?_
    lcg_off
    refine new_tup D1.gr.fh (sqL_of hp1) fun F2 H2 t g2 n2 e2 => ?_
    lcg_off
    refine new_sl g2.fh (g2.same.seq hwH1) fun F3 H3 l3 g3 n3 e3 => ?_
    have g13 := g1.trans (g2.trans g3)
    lcg_off
    rw [show cutV (ws.map wd) (some 3) none = (ws.drop 3).map wd from cutW_from ws 3] at e3
    refine rd_joinW (.inl (sqL_of (g3.fh _ _ e3))) (join_b ok.len 3) ?_
    lcg_off
    refine ⟨F0, H0, F3, p, dx, pp, pk, pr, d, ws.getD 1 [], spaced (ws.drop 3), d.parts, t, rfl, (D1.beside g2).beside g3, sqT_of (g3.ff _ _ e2), ⟨getD_okT ok.ok 1, isWordB_len c3⟩, D.wf.pl, D.wf.pw, fun F4 H4 D4 s4 => ?_⟩
    rw [← e0] at D4 ⊢
    exact k F4 H4 D4 (g13.ff.trans s4)
theorem ok_LibraryDraft_takes_operation (T : Txt K mg a) : FnOk P w K mg base CX0 3 a.f_LibraryDraft_takes_operation a.fd_LibraryDraft_takes_operation ["self", "words"]  (sp_dr Draft.takesOperation a K) := by
  refine T.F_LibraryDraft_takes_operation.ok sc_LibraryDraft_takes_operation (fun vs H Q E h => ?_) (fun cdv A outer s H vs Q E hr h => ?_)
  · obtain ⟨_, _, _, _, _, _, _, _, _, _, _, rfl, _⟩ := h
    rfl
  · obtain ⟨F0, H0, F, p, dx, pp, pk, pr, d, ws, wl, rfl, D, hw, ok, k⟩ := h
    refine ⟨_, ((Evl.pss_cut (ps_if (PW.pt (pw_or (PW.pt (pw_and (pt_cmpR op_notIn_seq (pe_ix ix_list (pv 1) pe_int (fun _ _ => rfl)) (pe_glob (v := .ref _) rfl T.g_BINARY_SIGNS rfl) (by rfl)) (pw_and1 (pt_cmpR op_notIn_seq (pe_ix ix_list (pv 1) pe_int (fun _ _ => rfl)) (pe_glob (v := .ref _) rfl T.g_UNARY_SIGNS rfl) (by rfl))))) (pw_or1 (pt_cmpR op_notIn_seq pe_str (pv 1) (by rfl)))))
 (pss_one (ps_ret pe_bl))
 pss_nil)
 (pss_cons (ps_set (i := 2) sc_LibraryDraft_takes_operation.nd rfl (Or.inl rfl) (pe_bm PySem.F.plainAttrs_list PySem.F.slot_list_index PySem.F.type_list_index mt_index (pv 1) (pa_cons pe_str pa_nil)))
 (pss_cons (ps_if (pt_cmpR op_eq (pv 2) pe_int (nomark _))
 (pss_one (ps_ret (pe_meth (pv 0) T.cl_LibraryDraft T.m_LibraryDraft_takes_row (ok_LibraryDraft_takes_row T) hr T.b_LibraryDraft_takes_row .nil pass0 (pa_cons (pe_ix ix_list (pv 1) pe_int (fun _ _ => rfl)) (pa_cons (pe_tup pa_nil) (pa_cons (pe_joinR (K := K) pe_str (pe_slice sl_list (pv 1) (po_some pe_int) po_none)) pa_nil))))))
 pss_nil)
 (pss_cons (ps_set (i := 3) sc_LibraryDraft_takes_operation.nd rfl (Or.inr rfl) (pe_slice sl_list (pv 1) (po_some pe_int) (po_some (pv 2))))
 (pss_cons (ps_if (PW.pt (pw_or (pt_cmpR op_ne (pe_ix ix_list (pv 1) pe_int (fun _ _ => rfl)) pe_str (nomark _)) (pw_or (pt_cmpR (op_eqD hr.units) (pv 3) (pe_lst pa_nil) (nomark _)) (pw_or1 (pt_cmpR (op_neD hr.units) (pv 3) (pe_lc (own := [("part", 4)]) (g := gName 4) rfl sc_LibraryDraft_takes_operation.nd (pi_list (pe_fld (pv 0) rfl)) (blkOk_by (own := [("part", 4)]) (N := ["self", "words", "at", "changed", "part"]) (sc := defScope s_LibraryDraft_takes_operation) (by decide +kernel)) (fun _ _ _ _ _ => (pg_name (i := 4) sc_LibraryDraft_takes_operation.nd rfl (Or.inl rfl))) (fun _ _ _ _ _ => (pts_one (pt_cmpR (op_inSeqK (K := K)) (pv 4) (pv 3) (by rfl)))) (fun _ _ _ _ _ => (pv 4))) (nomark _))))))
 (pss_one (ps_ret pe_bl))
 pss_nil)
 (pss_one (ps_ret (pe_meth (pv 0) T.cl_LibraryDraft T.m_LibraryDraft_takes_row (ok_LibraryDraft_takes_row T) hr T.b_LibraryDraft_takes_row .nil pass0 (pa_cons (pe_ix ix_list (pv 1) pe_int (fun _ _ => rfl)) (pa_cons (pe_callTy call_tupOf (by rfl) T.n_tuple (by decide +kernel) (pa_cons (pv 3) pa_nil)) (pa_cons (pe_joinR (K := K) pe_str (pe_slice sl_list (pv 1) (po_some (pe_op op_add (pv 2) pe_int)) po_none)) pa_nil)))))))))))), ?_⟩
    try simp only [cxK, by_tx, space_tx, changes_tx]
    have hs := D.me.h
    have hwH := D.gr.fh.seq hw
    have hwT := hwH
    have hl0 : 0 < ws.length := List.length_pos_iff.mpr ok.ne
    have okw : ∀ i, ∀ w ∈ (ws.take i).drop 2, okT w := fun i w hm => ok.ok w (List.mem_of_mem_take (List.mem_of_mem_drop hm))
    refine rd_cut (fun σ' H' => H' = H ∧ σ' = [some (.ref p), some (.ref wl), none, none, none] ∧ ¬ ((ws.getD 0 [] ∉ binS ∧ ws.getD 0 [] ∉ unS) ∨ wBy ∉ ws)) ?_ ?_
    · lcg_off
      refine rd_word (i := 0) hwH (by omega) ?_
      lcg_off
      refine rd_notInWT (T.binT _) ?_
      lcg_off
      have last : ¬ (ws.getD 0 [] ∉ binS ∧ ws.getD 0 [] ∉ unS) → if (!decide (wBy ∈ ws)) = true then Q (.bl false) H else H = H ∧ L2.start ["self", "words", "at", "changed", "part"] [V.ref p, V.ref wl] = [some (.ref p), some (.ref wl), none, none, none] ∧ ¬ ((ws.getD 0 [] ∉ binS ∧ ws.getD 0 [] ∉ unS) ∨ wBy ∉ ws) := by
        intro c
        refine ifN (fun c3 => ?_) (fun c3 => ?_)
        · exact dr_no k (if_pos (.inr c3)) D (Same.refl _)
        · exact ⟨rfl, rfl, fun z => z.elim c fun z => z c3⟩
      refine ifN (fun c1 => ?_) (fun c1 => ?_)
      · lcg_off
        refine rd_word (i := 0) hwH (by omega) ?_
        lcg_off
        refine rd_notInWT (T.unT _) ?_
        lcg_off
        refine ifN (fun c2 => ?_) (fun c2 => ?_)
        · refine iteT ?_
          lcg_off
          exact dr_no k (if_pos (.inl ⟨c1, c2⟩)) D (Same.refl _)
        · lcg_off
          refine rd_notInWL hwH ?_
          lcg_off
          exact last fun z => z.2 c2
      · refine iteF ?_
        lcg_off
        refine rd_notInWL hwH ?_
        lcg_off
        exact last fun z => z.1 c1
    · rintro σ' H' ⟨rfl, rfl, c0⟩
      have hby : wBy ∈ ws := Decidable.not_not.mp fun z => c0 (.inr z)
      have c1 : OkW 8 (ws.getD 0 []) := by
        refine signs_ok _ ?_
        by_cases z : ws.getD 0 [] ∈ binS
        · exact List.mem_append_left _ z
        · exact List.mem_append_right _ (Decidable.not_not.mp fun z2 => c0 (.inl ⟨z, z2⟩))
      have hat := List.idxOf_lt_length_of_mem hby
      have e0 : d.takesOperation ws = if ws.idxOf wBy = 1 then d.takesRow (ws.getD 0 []) [] (spaced (ws.drop 2)) else
          if ws.getD 1 [] ≠ wChanges ∨ (ws.take (ws.idxOf wBy)).drop 2 = [] ∨ (ws.take (ws.idxOf wBy)).drop 2 ≠ d.parts.filter (fun p => decide (p ∈ (ws.take (ws.idxOf wBy)).drop 2)) then none else
          d.takesRow (ws.getD 0 []) ((ws.take (ws.idxOf wBy)).drop 2) (spaced (ws.drop (ws.idxOf wBy + 1))) := if_neg c0
      have ne0 : ws.idxOf wBy ≠ 0 := by
        intro z
        have := List.getElem_idxOf (xs := ws) (x := wBy) hat
        have e : ws.getD 0 [] = wBy := by
          rw [List.getD_eq_getElem?_getD, ← z, List.getElem?_eq_getElem hat, this]
          rfl
        apply c0
        rw [e]
        exact .inl (by decide)
      lcg_off
      refine ⟨.inl ⟨rfl, _, hwH⟩, ?_⟩
      lcg_off
      refine rd_indexW hwH hby ?_
      lcg_off
      refine ifD (fun c2 => ?_) (fun c2 => ?_)
      · have c2' : ws.idxOf wBy = 1 := by have := V.int.inj c2; omega
        rw [if_pos c2'] at e0
        lcg_off
        refine rd_word (i := 0) hwH (by omega) ?_
        lcg_off
        refine newT D.gr.fh fun F2 H2 t g2 n2 e2 => ?_
        lcg_off
        refine new_sl g2.fh (g2.same.seq hwH) fun F3 H3 l3 g3 n3 e3 => ?_
        have g13 := g2.trans g3
        lcg_off
        rw [show cutV (ws.map wd) (some 2) none = (ws.drop 2).map wd from cutW_from ws 2] at e3
        refine rd_joinW (.inl (sqL_of (g3.fh _ _ e3))) (join_b ok.len 2) ?_
        lcg_off
        refine ⟨F0, H0, F3, p, dx, pp, pk, pr, d, ws.getD 0 [], spaced (ws.drop 2), [], t, rfl, (D.beside g2).beside g3, sqT_of (g3.ff _ _ e2), c1, Nat.zero_le _, (fun w hw => by cases hw), fun F4 H4 D4 s4 => ?_⟩
        rw [← e0] at D4 ⊢
        exact k F4 H4 D4 (g13.ff.trans s4)
      · have c2' : ws.idxOf wBy ≠ 1 := fun z => c2 (by rw [z]; rfl)
        rw [if_neg c2'] at e0
        have hj : 2 ≤ ws.idxOf wBy := by omega
        lcg_off
        refine new_sl D.gr.fh hwH fun F1 H1 l1 g1 n1 e1 => ?_
        rw [show cutV (ws.map wd) (some 2) (some (ws.idxOf wBy : Int)) = ((ws.take (ws.idxOf wBy)).drop 2).map wd from cutW_mid ws hj (by omega)] at e1
        have D1 := D.beside g1
        have hs1 := D1.me.h
        have hp1 := D1.pa.h
        have hwH1 := D1.gr.fh.seq (g1.ff.seq hw)
        have hl1 := g1.fh _ _ e1
        have okc := okw (ws.idxOf wBy)
        generalize hch : (ws.take (ws.idxOf wBy)).drop 2 = ch at e0 e1 hl1 okc
        lcg_off
        refine rd_word (i := 1) hwH1 (by omega) ?_
        lcg_off
        refine ifN (fun c3 => ?_) (fun c3 => ?_)
        · refine iteT ?_
          lcg_off
          exact dr_no k (e0.trans (if_pos (.inl c3))) D1 g1.ff
        lcg_off
        refine newL D1.gr.fh fun F2 H2 l2 g2 n2 e2 => ?_
        have D2 := D1.beside g2
        have hs2 := D2.me.h
        have hp2 := D2.pa.h
        have g12 := g1.trans g2
        have hl2 := g2.same _ _ hl1
        refine rd_eqWL (vs := []) (sqL_of hl2) (sqL_of (g2.fh _ _ e2)) okc (fun w hw => by cases hw) ?_
        lcg_off
        refine ifD (fun c4 => ?_) (fun c4 => ?_)
        · refine iteT ?_
          lcg_off
          exact dr_no k (e0.trans (if_pos (.inr (.inl c4)))) D2 g12.ff
        lcg_off
        refine lcL (rows := d.parts) (by simp) (by rw [List.length_map]; have := D.wf.pl; omega) (sqL_of hp2) (fun q => decide (q ∈ ch)) wd (fun i x q H3 hx hq s3 Done Kept hdn hkp => ?_) fun L H3 hL s3 e3 => ?_
        · rw [List.getElem?_map, hq] at hx
          obtain rfl : V.str (tx q) = x := Option.some.inj hx
          lcg_off
          refine ⟨rfl, ?_⟩
          lcg_off
          refine rd_inWL (sqL_of (s3 _ _ hl2)) ?_
          lcg_off
          refine ifD (fun c => ?_) (fun c => ?_)
          · lcg_off
            exact hkp _ (Same.refl _) (decide_eq_true c)
          · exact hdn _ (Same.refl _) (decide_eq_false c)
        · have g3 := Grow.ofSame' D2.gr.fh s3
          have D3 := D2.beside g3
          have hs3 := D3.me.h
          have g13 := g12.trans g3
          have hl3 := s3 _ _ hl2
          have hwH3 := D3.gr.fh.seq (g13.ff.seq hw)
          refine rd_neWL (sqL_of hl3) (sqL_of e3) okc (fun w hm => (D.wf.pw w (List.mem_filter.mp hm).1).1) ?_
          lcg_off
          refine ifN (fun c5 => ?_) (fun c5 => ?_)
          · lcg_off
            exact dr_no k (e0.trans (if_pos (.inr (.inr c5)))) D3 g13.ff
          have e0' : d.takesOperation ws = d.takesRow (ws.getD 0 []) ch (spaced (ws.drop (ws.idxOf wBy + 1))) := by
            refine e0.trans (if_neg ?_)
            rintro (h | h | h)
            · exact h c3
            · exact c4 h
            · exact h c5
          lcg_off
          refine rd_word (i := 0) hwH3 (by omega) ?_
          lcg_off
          refine new_tup D3.gr.fh (sqL_of hl3) fun F4 H4 t g4 n4 e4 => ?_
          lcg_off
          refine new_sl g4.fh (g4.same.seq hwH3) fun F5 H5 l5 g5 n5 e5 => ?_
          have g15 := g13.trans (g4.trans g5)
          lcg_off
          have ez : ((ws.idxOf wBy : Nat) : Int) + 1 = ((ws.idxOf wBy + 1 : Nat) : Int) := by omega
          rw [ez, cutW_from] at e5
          refine rd_joinW (.inl (sqL_of (g5.fh _ _ e5))) (join_b ok.len _) ?_
          lcg_off
          refine ⟨F0, H0, F5, p, dx, pp, pk, pr, d, ws.getD 0 [], spaced (ws.drop (ws.idxOf wBy + 1)), ch, t, rfl, (D3.beside g4).beside g5, sqT_of (g5.ff _ _ e4), c1, ?_, (fun w hm => ?_), fun F6 H6 D6 s6 => ?_⟩
          · rw [c5]
            exact Nat.le_trans (List.length_filter_le _ _) D.wf.pl
          · rw [c5] at hm
            exact D.wf.pw w (List.mem_filter.mp hm).1
          · rw [← e0'] at D6 ⊢
            exact k F6 H6 D6 (g15.ff.trans s6)
theorem ok_LibraryDraft_takes_line (T : Txt K mg a) : FnOk P w K mg base CX0 5 a.f_LibraryDraft_takes_line a.fd_LibraryDraft_takes_line ["self", "words"]  (sp_dr Draft.takes a K) := by
  refine T.F_LibraryDraft_takes_line.ok sc_LibraryDraft_takes_line (fun vs H Q E h => ?_) (fun cdv A outer s H vs Q E hr h => ?_)
  · obtain ⟨_, _, _, _, _, _, _, _, _, _, _, rfl, _⟩ := h
    rfl
  · obtain ⟨F0, H0, F, p, dx, pp, pk, pr, d, ws, wl, rfl, D, hw, ok, k⟩ := h
    refine ⟨_, ((pss_cons (ps_if (pt_cmpR op_eq (pe_fld (pv 0) rfl) pe_str (nomark _))
 (pss_one (ps_ret (pe_meth (pv 0) T.cl_LibraryDraft T.m_LibraryDraft_takes_name (ok_LibraryDraft_takes_name T) (hr.mono (by decide)) T.b_LibraryDraft_takes_name .nil pass0 (pa_cons (pv 1) pa_nil))))
 pss_nil)
 (pss_cons (ps_if (pt_cmpR op_eq (pe_ix ix_list (pv 1) pe_int (fun _ _ => rfl)) pe_str (nomark _))
 (pss_one (ps_ret (pe_meth (pv 0) T.cl_LibraryDraft T.m_LibraryDraft_takes_needs (ok_LibraryDraft_takes_needs T) hr T.b_LibraryDraft_takes_needs .nil pass0 (pa_cons (pv 1) pa_nil))))
 pss_nil)
 (pss_cons (ps_if (pt_cmpR (op_eqD hr.units) (pe_fld (pv 0) rfl) (pe_lst pa_nil) (nomark _))
 (pss_one (ps_ret pe_bl))
 pss_nil)
 (pss_cons (ps_if (pt_cmpR op_eq (pe_ix ix_list (pv 1) pe_int (fun _ _ => rfl)) pe_str (nomark _))
 (pss_one (ps_ret (pe_meth (pv 0) T.cl_LibraryDraft T.m_LibraryDraft_takes_keeps (ok_LibraryDraft_takes_keeps T) hr T.b_LibraryDraft_takes_keeps .nil pass0 (pa_cons (pv 1) pa_nil))))
 pss_nil)
 (pss_cons (ps_if (pt_cmpR op_eq (pe_ix ix_list (pv 1) pe_int (fun _ _ => rfl)) pe_str (nomark _))
 (pss_one (ps_ret (pe_meth (pv 0) T.cl_LibraryDraft T.m_LibraryDraft_takes_hook (ok_LibraryDraft_takes_hook T) (hr.mono (by decide)) T.b_LibraryDraft_takes_hook .nil pass0 (pa_cons (pv 1) pa_nil))))
 pss_nil)
 (pss_cons (ps_if (pt_cmpR op_eq (pe_ix ix_list (pv 1) pe_int (fun _ _ => rfl)) pe_str (nomark _))
 (pss_one (ps_ret (pe_meth (pv 0) T.cl_LibraryDraft T.m_LibraryDraft_takes_request (ok_LibraryDraft_takes_request T) (hr.mono (by decide)) T.b_LibraryDraft_takes_request .nil pass0 (pa_cons (pv 1) pa_nil))))
 pss_nil)
 (pss_one (ps_ret (pe_meth (pv 0) T.cl_LibraryDraft T.m_LibraryDraft_takes_operation (ok_LibraryDraft_takes_operation T) (hr.mono (by decide)) T.b_LibraryDraft_takes_operation .nil pass0 (pa_cons (pv 1) pa_nil))))))))))), ?_⟩
    try simp only [cxK, none_tx, needs_tx, keeps_tx, hook_tx, make_tx]
    have hs := D.me.h
    have hl0 : 0 < ws.length := List.length_pos_iff.mpr ok.ne
    have hwH := D.gr.fh.seq hw
    have hE : d.takes ws = if d.name = [] then d.takesName ws else
      if ws.getD 0 [] = wNeeds then d.takesNeeds ws else
      if d.parts = [] then none else
      if ws.getD 0 [] = wKeeps then d.takesKeeps ws else
      if ws.getD 0 [] = wHook then d.takesHook ws else
      if ws.getD 0 [] = wMake then d.takesRequest ws else d.takesOperation ws := rfl
    lcg_off
    refine ifD (fun c1 => ?_) (fun c1 => ?_)
    · rw [if_pos c1] at hE
      lcg_off
      refine ⟨F0, H0, F, p, dx, pp, pk, pr, d, ws, wl, rfl, D, hw, ok, fun F4 H4 D4 s4 => ?_⟩
      rw [← hE] at D4 ⊢
      exact k F4 H4 D4 s4
    rw [if_neg c1] at hE
    lcg_off
    refine rd_word (i := 0) hwH (by omega) ?_
    lcg_off
    refine ifD (fun c2 => ?_) (fun c2 => ?_)
    · rw [if_pos c2] at hE
      lcg_off
      refine ⟨F0, H0, F, p, dx, pp, pk, pr, d, ws, wl, rfl, D, hw, ok, fun F4 H4 D4 s4 => ?_⟩
      rw [← hE] at D4 ⊢
      exact k F4 H4 D4 s4
    rw [if_neg c2] at hE
    lcg_off
    refine newL D.gr.fh fun F1 H1 l1 g1 n1 e1 => ?_
    have D1 := D.beside g1
    have hs1 := D1.me.h
    have hwH1 := D1.gr.fh.seq (g1.ff.seq hw)
    refine D1.eqP (g1.fh _ _ e1) ?_
    lcg_off
    refine ifD (fun c3 => ?_) (fun c3 => ?_)
    · rw [if_pos c3] at hE
      lcg_off
      exact dr_no k hE D1 g1.ff
    rw [if_neg c3] at hE
    lcg_off
    refine rd_word (i := 0) hwH1 (by omega) ?_
    lcg_off
    refine ifD (fun c4 => ?_) (fun c4 => ?_)
    · rw [if_pos c4] at hE
      lcg_off
      refine ⟨F0, H0, F1, p, dx, pp, pk, pr, d, ws, wl, rfl, D1, g1.ff.seq hw, ok, fun F4 H4 D4 s4 => ?_⟩
      rw [← hE] at D4 ⊢
      exact k F4 H4 D4 (g1.ff.trans s4)
    rw [if_neg c4] at hE
    lcg_off
    refine rd_word (i := 0) hwH1 (by omega) ?_
    lcg_off
    refine ifD (fun c5 => ?_) (fun c5 => ?_)
    · rw [if_pos c5] at hE
      lcg_off
      refine ⟨F0, H0, F1, p, dx, pp, pk, pr, d, ws, wl, rfl, D1, g1.ff.seq hw, ok, fun F4 H4 D4 s4 => ?_⟩
      rw [← hE] at D4 ⊢
      exact k F4 H4 D4 (g1.ff.trans s4)
    rw [if_neg c5] at hE
    lcg_off
    refine rd_word (i := 0) hwH1 (by omega) ?_
    lcg_off
    refine ifD (fun c6 => ?_) (fun c6 => ?_)
    · rw [if_pos c6] at hE
      lcg_off
      refine ⟨F0, H0, F1, p, dx, pp, pk, pr, d, ws, wl, rfl, D1, g1.ff.seq hw, ok, fun F4 H4 D4 s4 => ?_⟩
      rw [← hE] at D4 ⊢
      exact k F4 H4 D4 (g1.ff.trans s4)
    · rw [if_neg c6] at hE
      lcg_off
      refine ⟨F0, H0, F1, p, dx, pp, pk, pr, d, ws, wl, rfl, D1, g1.ff.seq hw, ok, fun F4 H4 D4 s4 => ?_⟩
      rw [← hE] at D4 ⊢
      exact k F4 H4 D4 (g1.ff.trans s4)
end
end Lb

namespace Lb
open PySem L2 Hk
theorem libraryS_tx : Str.ofString "library " = tx [108, 105, 98, 114, 97, 114, 121, 32] := by decide +kernel
theorem needsS_tx : Str.ofString "needs " = tx [110, 101, 101, 100, 115, 32] := by decide +kernel
theorem keepsS_tx : Str.ofString "keeps " = tx [107, 101, 101, 112, 115, 32] := by decide +kernel
theorem ofS_tx : Str.ofString " of " = tx [32, 111, 102, 32] := by decide +kernel
theorem hookS_tx : Str.ofString "hook " = tx [104, 111, 111, 107, 32] := by decide +kernel
theorem makeS_tx : Str.ofString "make " = tx [109, 97, 107, 101, 32] := by decide +kernel
theorem byS_tx : Str.ofString " by " = tx [32, 98, 121, 32] := by decide +kernel
theorem changesS_tx : Str.ofString " changes " = tx [32, 99, 104, 97, 110, 103, 101, 115, 32] := by decide +kernel
theorem spaced_len {ws : List Wd} (hl : ws.length ≤ 3) (h : ∀ w ∈ ws, OkW 8 w) : (ws.map (·.length)).sum + ws.length * 1 ≤ 27 := by
  have : ∀ (ws : List Wd), (∀ w ∈ ws, OkW 8 w) → (ws.map (·.length)).sum ≤ 8 * ws.length := by
    intro ws
    induction ws with
    | nil => intro _; simp
    | cons x xs ih =>
      intro h
      have h1 := (h x (List.mem_cons_self ..)).2
      have h2 := ih fun w hw => h w (List.mem_cons_of_mem _ hw)
      rw [List.map_cons, List.sum_cons, List.length_cons]
      omega
  have := this ws h
  omega
theorem spaced_le {ws : List Wd} (hl : ws.length ≤ 3) (h : ∀ w ∈ ws, OkW 8 w) : (spaced ws).length ≤ 27 := by
  have h1 := joinL_len [32] ws
  have h2 := spaced_len hl h
  have : (spaced ws).length ≤ (ws.map (·.length)).sum + ws.length * ([32] : List Nat).length := h1
  simp at this
  omega
theorem flt {α : Type} (xs : List α) : xs.filter (fun _ => true) = xs := List.filter_eq_self.mpr fun _ _ => rfl
/-- the lines ahead of the operations -/
def Draft.heads (d : Draft) : List Wd := [wLibrary ++ [32] ++ d.name] ++ d.parts.map (fun p => wNeeds ++ [32] ++ p) ++ d.keeping.map (fun p => wKeeps ++ [32] ++ p.1 ++ [32] ++ wOf ++ [32] ++ p.2) ++ (match d.hook with | none => [] | some h => [wHook ++ [32] ++ h])
theorem Draft.lines_eq (d : Draft) : d.lines = d.heads ++ d.rows.map Row3.line := rfl
theorem Draft.heads_len {d : Draft} (h : d.Wf) : d.heads.length ≤ 7 := by
  have h1 := h.pl
  have h2 := h.kl
  unfold Draft.heads
  cases d.hook <;> simp <;> omega
/-- what text_lines reads of the object -/
structure LibF (fs : List (Str × V)) (d : Draft) (np kp rp : Addr) : Prop where
  nm : fs.lookup ("name" : Str) = some (.str (tx d.name))
  pa : fs.lookup ("root_parameters" : Str) = some (.ref np)
  ke : fs.lookup ("kept" : Str) = some (.ref kp)
  hk : fs.lookup ("root_hook" : Str) = some (hookV d.hook)
  ro : fs.lookup ("rows" : Str) = some (.ref rp)
local macro_rules | `(tactic| array_mem_dec) => `(tactic| with_reducible first
  | assumption | exact upd_same
  | (apply upd_new; assumption; array_mem_dec)
  | (apply upd_old; tlg_ne; array_mem_dec)
  | (apply same_at; assumption; array_mem_dec))
local macro_rules | `(tactic| tlg_ne) => `(tactic| with_reducible first
  | assumption | (apply Ne.symm; assumption)
  | (apply ne_new; assumption; array_mem_dec) | (apply ne_new'; assumption; array_mem_dec)
  | (apply ne_of; assumption; assumption; (with_unfolding_all (intro z; cases z; done))))
local macro_rules | `(tactic| decreasing_trivial_pre_omega) => `(tactic| with_reducible first
  | assumption | (apply sqL_of; array_mem_dec) | (apply sqT_of; array_mem_dec)
  | (apply Same.seq; assumption; decreasing_trivial_pre_omega) | (apply sqT_same; assumption; decreasing_trivial_pre_omega)
  | (apply sqL_new; assumption; decreasing_trivial_pre_omega) | (apply sqL_upd; tlg_ne; decreasing_trivial_pre_omega))
local macro_rules | `(tactic| kpt_turns) => `(tactic| with_reducible first
  | assumption | exact Same.refl _ | (apply same_ext; kpt_turns; assumption) | (apply same_mut; kpt_turns; keq_hits) | (apply same_step; assumption; kpt_turns))
local macro_rules | `(tactic| keq_hits) => `(tactic| with_reducible first | assumption | (apply same_none; assumption; keq_hits))
local macro_rules | `(tactic| sizeOf_list_dec) => `(tactic| first | (with_reducible assumption) | (with_reducible_and_instances omega) | (with_unfolding_all decide))
local macro_rules | `(tactic| array_get_dec) => `(tactic| first | (with_reducible assumption) | (apply sz_of; (with_unfolding_all simp); done) | (apply sz_of; omega) | (apply sz_lt; (with_unfolding_all simp); done) | (apply sz_lt; omega))
local macro_rules | `(tactic| keq_rows) => `(tactic| with_reducible first
  | apply rd_asgN | apply rd_seq | apply rd_parA | apply rd_par3A | apply rd_par2 | apply rd_par3 | apply rd_m1 | apply rd_isStr | apply rd_cval | apply rd_asg | apply rd_gname | apply rd_op | (show tVar _ _ _ _; refine rd_var (by with_unfolding_all rfl) ?_) | apply rd_c | apply rd_I0
  | apply rd_cons | apply rd_nil | apply rd_cb | apply rd_test | apply rd_bl | apply rd_fld | apply rd_drop | apply rd_ret | apply rd_retN | apply rd_next
  | apply rd_ifS | apply rd_un | apply rd_B | apply rd_and | apply rd_or | apply rd_not | apply rd_andV | apply rd_orV | apply rd_notV | apply rd_if
  | apply rd_int | apply rd_abs | apply rd_max | apply rd_min | apply rd_strS | apply rd_U
  | apply rd_eqTx | apply rd_neTx | apply rd_inTx | apply rd_notInTx | apply rd_fmt | (show FmtK (.str (tx _)) _ _; refine rd_fmtT (by omega) ?_) | apply rd_jsC | apply rd_jsN | (show JsK _ (tx _) _ (.str (tx _)) _ _; refine rd_JsK (by first | omega | (simp; done) | (simp; omega)) ?_) | (show rAddStr (.str (tx _)) (.str (tx _)) _ _; refine rd_addT (by first | omega | (simp; done) | (simp; omega)) ?_) | (show rLenStr [.str (tx _)] _ _; refine rd_lenTx (by omega) ?_)
  | (show rEq _ _ _ _; refine rd_eq (by with_unfolding_all rfl) ?_) | (show rNe _ _ _ _; refine rd_ne (by with_unfolding_all rfl) ?_) | apply rd_isNone | apply rd_notNone
  | (show rIxL _ _ _ _ _; refine rd_ixL (by decreasing_trivial_pre_omega) (by with_unfolding_all rfl) ?_) | (show rIxT _ _ _ _ _; refine rd_ixT (by decreasing_trivial_pre_omega) (by with_unfolding_all rfl) ?_)
  | (show rLenSeq _ _ _ _; refine rd_lenL (by decreasing_trivial_pre_omega) ?_) | (show rLenSeq _ _ _ _; refine rd_lenT (by decreasing_trivial_pre_omega) ?_)
  | (show rI _ _ _ _ _ _; refine rd_mod (by sizeOf_list_dec) ?_) | (show rI _ _ _ _ _ _; refine rd_div (by sizeOf_list_dec) (by sizeOf_list_dec) ?_) | (show rI _ _ _ _ _ _; refine rd_mulR (by sizeOf_list_dec) (by sizeOf_list_dec) ?_) | (show rI _ _ _ _ _ _; refine rd_mulL (by sizeOf_list_dec) (by sizeOf_list_dec) ?_) | (show rI _ _ _ _ _ _; refine rd_pow (by sizeOf_list_dec) ?_)
  | (show rSetL _ _ _ _ _; refine rd_setL (by array_mem_dec) (by with_unfolding_all rfl) ?_)
  | apply rd_inSign | apply rd_notInSign | apply rd_tupK | apply rd_lstK | apply rd_sl | apply rd_noPart | apply rd_part | apply rd_isInt
  | apply rd_gsub | apply rd_gcons | apply rd_gnil | apply rd_call | apply rd_meth | apply rd_make | apply rd_smeth | apply rd_isC | apply rd_smethK | apply rd_cmeth | apply rd_cmethK
  | apply rd_bm | apply rd_bm0 | (show BmK _ _ _ _ _ _ _ _; refine rd_bmL (by array_mem_dec) ?_) | (show Bm0K _ _ _ _ _ _; refine rd_bm0L (by array_mem_dec) ?_) | apply rd_sfld | apply rd_aug | apply rd_rAdd | apply rd_brk | apply rd_cont
  | apply rd_for | apply rd_iList | (show IList _ _ _ _; refine rd_IList (by decreasing_trivial_pre_omega) ?_) | apply rd_iTup | (show ITup _ _ _ _; refine rd_ITup (by decreasing_trivial_pre_omega) ?_) | apply rd_iEnum | (show IEnum _ _ _ _; refine rd_IEnum (by decreasing_trivial_pre_omega) ?_) | apply rd_iRng1 | (show IRng1 _ _ _; refine rd_IRng1 (by sizeOf_list_dec) (by sizeOf_list_dec) ?_)
  | (show rLenStr _ _ _; refine rd_lenS (by array_get_dec) ?_) | (show rAddStr _ _ _ _; refine rd_addS (by array_get_dec) ?_) | (show rSlS _ _ _ _ _; refine rd_slS (by array_get_dec) ?_) | apply rd_lc | apply rd_yes | (show gTup _ _ _ _ _ _ _; refine rd_gtup (by decreasing_trivial_pre_omega) (by with_unfolding_all rfl) ?_) | (show tMakeL _ _ _ _ _ _ _ _; refine rd_makeL (by with_unfolding_all rfl) ?_))
local macro_rules | `(tactic| kas_types) => `(tactic| with_reducible first | apply rd_isi_int_int | apply rd_isi_int_bool | apply rd_isi_int_str | apply rd_isi_int_list | apply rd_isi_int_tuple | apply rd_isi_bool_int | apply rd_isi_bool_bool | apply rd_isi_bool_str | apply rd_isi_bool_list | apply rd_isi_bool_tuple | apply rd_isi_str_int | apply rd_isi_str_bool | apply rd_isi_str_str | apply rd_isi_str_list | apply rd_isi_str_tuple | (show rIsi _ _ _ _; refine rd_isi_list_int (by array_mem_dec) ?_) | (show rIsi _ _ _ _; refine rd_isi_list_bool (by array_mem_dec) ?_) | (show rIsi _ _ _ _; refine rd_isi_list_str (by array_mem_dec) ?_) | (show rIsi _ _ _ _; refine rd_isi_list_list (by array_mem_dec) ?_) | (show rIsi _ _ _ _; refine rd_isi_list_tuple (by array_mem_dec) ?_) | (show rIsi _ _ _ _; refine rd_isi_tuple_int (by array_mem_dec) ?_) | (show rIsi _ _ _ _; refine rd_isi_tuple_bool (by array_mem_dec) ?_) | (show rIsi _ _ _ _; refine rd_isi_tuple_str (by array_mem_dec) ?_) | (show rIsi _ _ _ _; refine rd_isi_tuple_list (by array_mem_dec) ?_) | (show rIsi _ _ _ _; refine rd_isi_tuple_tuple (by array_mem_dec) ?_) | apply rd_isi_NoneType_int | apply rd_isi_NoneType_bool | apply rd_isi_NoneType_str | apply rd_isi_NoneType_list | apply rd_isi_NoneType_tuple)
local macro_rules | `(tactic| lcg_src) => `(tactic| repeat keq_rows)

local macro_rules | `(tactic| lcg_sub) => `(tactic| with_reducible first | apply rd_chain)
local macro_rules | `(tactic| lcg_off) => `(tactic| repeat (first | keq_rows | lcg_sub))
section
variable {P : Program} {w : World} {K : PySem.W.Frag} {mg : Str → Option Value} {base : Heap} {a : Ad}
def sp_Library_text_lines (a : Ad) (K : PySem.W.Frag) : Sp := fun vs H Q _ => ∃ (F : Hp) (p dx : Addr) (fs : List (Str × V)) (d : Draft) (np kp rp : Addr) (ks rs : List V), vs = [.ref p] ∧ Same F H ∧ H p = some (.ins a.C_Library dx fs) ∧ LibF fs d np kp rp ∧
  SqT K F np (d.parts.map wd) ∧ SqT K F kp ks ∧ DpAll K F ks (d.keeping.map keepD) ∧ SqL K F rp rs ∧ DpAll K F rs (d.rows.map rowD) ∧ d.Wf ∧ ∀ F' H' l, Grow [] F H F' H' → F' l = some (.lst (d.lines.map wd)) → Q (.ref l) H'
theorem ok_Library_text_lines (T : Txt K mg a) : FnOk P w K mg base CX0 2 a.f_Library_text_lines a.fd_Library_text_lines ["self"]  (sp_Library_text_lines a K) := by
  refine T.F_Library_text_lines.ok sc_Library_text_lines (fun vs H Q E h => ?_) (fun cdv A outer s H vs Q E hr h => ?_)
  · obtain ⟨_, _, _, _, _, _, _, _, _, _, rfl, _⟩ := h
    rfl
  · obtain ⟨F, p, dx, fs, d, np, kp, rp, ks, rs, rfl, fh, hp, L, hnp, hkp, hks, hrp, hrs, wf, k⟩ := h
    refine ⟨_, ((pss_cons (ps_set (i := 1) sc_Library_text_lines.nd rfl (Or.inl rfl) (pe_op op_cat (pe_lst (pa_cons (pe_joined (.cons pe_str (.cons (pe_fmt (pe_fld (pv 0) rfl)) .nil))) pa_nil)) (pe_lc (own := [("part", 2)]) (g := gName 2) (tt := tYes) rfl sc_Library_text_lines.nd (pi_tup (pe_fld (pv 0) rfl)) (blkOk_by (own := [("part", 2)]) (N := ["self", "lines", "part", "field", "of", "sign", "changed", "maker", "told"]) (sc := defScope s_Library_text_lines) (by decide +kernel)) (fun _ _ _ _ _ => (pg_name (i := 2) sc_Library_text_lines.nd rfl (Or.inl rfl))) (fun _ _ _ _ _ => pts_nil) (fun _ _ _ _ _ => (pe_joined (.cons pe_str (.cons (pe_fmt (pv 2)) .nil)))))))
 (pss_cons (ps_aug (i := 1) sc_Library_text_lines.nd rfl (Or.inl rfl) (pe_lc (own := [("field", 3), ("of", 4)]) (g := gTup K 2 (gCons (gName 3) (gCons (gName 4) gNil))) (tt := tYes) rfl sc_Library_text_lines.nd (pi_tup (pe_fld (pv 0) rfl)) (blkOk_by (own := [("field", 3), ("of", 4)]) (N := ["self", "lines", "part", "field", "of", "sign", "changed", "maker", "told"]) (sc := defScope s_Library_text_lines) (by decide +kernel)) (fun _ _ _ _ _ => (pg_tupK (K := K) rfl (pgs_cons (pg_name (i := 3) sc_Library_text_lines.nd rfl (Or.inl rfl)) (pgs_cons (pg_name (i := 4) sc_Library_text_lines.nd rfl (Or.inl rfl)) pgs_nil)))) (fun _ _ _ _ _ => pts_nil) (fun _ _ _ _ _ => (pe_joined (.cons pe_str (.cons (pe_fmt (pv 3)) (.cons pe_str (.cons (pe_fmt (pv 4)) .nil))))))) iop_ext)
 (Evl.pss_cut (ps_if (pt_cmpR op_notNone (pe_fld (pv 0) rfl) pe_non (nomark _))
 (pss_one (ps_expr (pe_bm PySem.F.plainAttrs_list PySem.F.slot_list_append PySem.F.type_list_append mt_append (pv 1) (pa_cons (pe_joined (.cons pe_str (.cons (pe_fmt (pe_fld (pv 0) rfl)) .nil))) pa_nil))))
 pss_nil)
 (pss_cons (ps_for PassesOwn.never rfl (pi_list (pe_fld (pv 0) rfl)) (pg_tup rfl (pgs_cons (pg_name (i := 5) sc_Library_text_lines.nd rfl (Or.inl rfl)) (pgs_cons (pg_name (i := 6) sc_Library_text_lines.nd rfl (Or.inl rfl)) (pgs_cons (pg_name (i := 7) sc_Library_text_lines.nd rfl (Or.inl rfl)) pgs_nil))))
 (pss_one (ps_if (pt_cmpR op_eq (pe_call (ok_arity_of T) hr rfl T.g_arity_of T.F_arity_of.kp T.b_arity_of .nil pass0 (pa_cons (pv 5) pa_nil)) pe_int (nomark _))
 (pss_one (ps_expr (pe_bm PySem.F.plainAttrs_list PySem.F.slot_list_append PySem.F.type_list_append mt_append (pv 1) (pa_cons (pe_joined (.cons pe_str (.cons (pe_fmt (pv 5)) (.cons pe_str (.cons (pe_fmt (pv 7)) .nil))))) pa_nil))))
 (pss_one (ps_if (pt_cmpR (op_eqD hr.units) (pv 6) (pe_tup pa_nil) (nomark _))
 (pss_one (ps_expr (pe_bm PySem.F.plainAttrs_list PySem.F.slot_list_append PySem.F.type_list_append mt_append (pv 1) (pa_cons (pe_joined (.cons (pe_fmt (pv 5)) (.cons pe_str (.cons (pe_fmt (pv 7)) .nil)))) pa_nil))))
 (pss_cons (ps_set (i := 8) sc_Library_text_lines.nd rfl (Or.inl rfl) (pe_joinR (K := K) pe_str (pv 6)))
 (pss_one (ps_expr (pe_bm PySem.F.plainAttrs_list PySem.F.slot_list_append PySem.F.type_list_append mt_append (pv 1) (pa_cons (pe_joined (.cons (pe_fmt (pv 5)) (.cons pe_str (.cons (pe_fmt (pv 8)) (.cons pe_str (.cons (pe_fmt (pv 7)) .nil)))))) pa_nil))))))))))
 (pss_one (ps_ret (pv 1)))))))), ?_⟩
    try simp only [cxK, libraryS_tx, needsS_tx, keepsS_tx, ofS_tx, hookS_tx, makeS_tx, byS_tx, changesS_tx, space_tx, empty_tx]
    have hnl := wf.nm.2
    have hpl := wf.pl
    have hkl := wf.kl
    have hrl := wf.rl
    lcg_off
    refine rd_fldK hp T.cl_Library T.no_Library_name L.nm ?_
    lcg_off
    refine newL fh fun F1 H1 l1 g1 n1 e1 => ?_
    lcg_off
    refine rd_fldK (g1.same _ _ hp) T.cl_Library T.no_Library_root_parameters L.pa ?_
    lcg_off
    refine rd_ITup (sqT_same (g1.ff.trans g1.fh) hnp) ?_
    refine lcT (rows := d.parts) (by simp) (by rw [List.length_map]; omega) (sqT_same (g1.ff.trans g1.fh) hnp) (fun _ => true) (fun q => .str (tx (wNeeds ++ [32] ++ q))) (fun i x q H3 hx hq s3 Done Kept hdn hkp => ?_) fun l2 H2 hl2 s2 e2 => ?_
    · rw [List.getElem?_map, hq] at hx
      obtain rfl : V.str (tx q) = x := Option.some.inj hx
      have hql := (wf.pw q (List.mem_of_getElem? hq)).2
      lcg_off
      refine ⟨rfl, ?_⟩
      lcg_off
      refine iteT ?_
      lcg_off
      exact hkp _ (Same.refl _) rfl
    rw [flt] at e2
    have g2 := g1.trans (Grow.ofSame' g1.fh s2)
    have hf2 := g1.ff
    lcg_off
    refine rd_cat (s2 _ _ (g1.fh _ _ e1)) e2 (by simp; omega) fun l3 n3 => ?_
    have g3 := g2.newO (o := .lst ([.str (tx ([] ++ [108, 105, 98, 114, 97, 114, 121, 32] ++ d.name))] ++ d.parts.map (fun q => .str (tx (wNeeds ++ [32] ++ q))))) n3
    have h3 := Hold.new (o := .lst ([.str (tx ([] ++ [108, 105, 98, 114, 97, 114, 121, 32] ++ d.name))] ++ d.parts.map (fun q => .str (tx (wNeeds ++ [32] ++ q))))) g2.fh n3
    generalize hH3 : upd H2 l3 (.lst ([.str (tx ([] ++ [108, 105, 98, 114, 97, 114, 121, 32] ++ d.name))] ++ d.parts.map (fun q => V.str (tx (wNeeds ++ [32] ++ q))))) = H3 at g3 h3
    lcg_off
    refine rd_augN (by with_unfolding_all rfl) ?_
    lcg_off
    refine rd_fldK (g3.same _ _ hp) T.cl_Library T.no_Library_kept L.ke ?_
    lcg_off
    have hkp3 : SqT K H3 kp ks := sqT_same (g3.ff.trans g3.fh) hkp
    have hks3 : DpAll K H3 ks (d.keeping.map keepD) := hks.mono (g3.ff.trans g3.fh)
    refine rd_ITup hkp3 ?_
    refine lcT (rows := d.keeping) (by simpa using hks3.length) (by rw [hks3.length, List.length_map]; omega) hkp3 (fun _ => true) (fun q => .str (tx (wKeeps ++ [32] ++ q.1 ++ [32] ++ wOf ++ [32] ++ q.2))) (fun i x q H4 hx hq s4 Done Kept hdn hkp => ?_) fun l4 H4 n4 s4 e4 => ?_
    · obtain ⟨dd, z1, z2⟩ := hks3.get hx
      rw [List.getElem?_map, hq] at z1
      cases z1
      obtain ⟨t, rfl, ht⟩ := tup0 z2
      have ht4 := sqT_same s4 ht
      have hq1 := (wf.kw q (List.mem_of_getElem? hq)).1.2
      have hq2 := (wf.kw q (List.mem_of_getElem? hq)).2.2
      lcg_off
      refine ⟨rfl, ?_⟩
      lcg_off
      refine iteT ?_
      lcg_off
      have e : [] ++ [107, 101, 101, 112, 115, 32] ++ q.1 ++ [32, 111, 102, 32] ++ q.2 = wKeeps ++ [32] ++ q.1 ++ [32] ++ wOf ++ [32] ++ q.2 := by
        unfold wKeeps wOf
        simp
      rw [e]
      exact hkp _ (Same.refl _) rfl
    rw [flt] at e4
    have g4 := Grow.ofSame' g3.fh s4
    have h4 := h3.go0 g4
    refine rd_ext2 h4.h e4 (by simp; omega) ?_
    have ne4 : l3 ≠ l4 := ne_of_none h3.h n4
    have g5 := (g3.trans g4).mut (o := .lst ([.str (tx ([] ++ [108, 105, 98, 114, 97, 114, 121, 32] ++ d.name))] ++ d.parts.map (fun q => .str (tx (wNeeds ++ [32] ++ q))) ++ d.keeping.map (fun q => V.str (tx (wKeeps ++ [32] ++ q.1 ++ [32] ++ wOf ++ [32] ++ q.2))))) h4.f (.inr (g2.free n3))
    have h5 := h4.put (u := .lst ([.str (tx ([] ++ [108, 105, 98, 114, 97, 114, 121, 32] ++ d.name))] ++ d.parts.map (fun q => .str (tx (wNeeds ++ [32] ++ q))) ++ d.keeping.map (fun q => V.str (tx (wKeeps ++ [32] ++ q.1 ++ [32] ++ wOf ++ [32] ++ q.2)))))
    generalize hH5 : upd H4 l3 (.lst ([.str (tx ([] ++ [108, 105, 98, 114, 97, 114, 121, 32] ++ d.name))] ++ d.parts.map (fun q => .str (tx (wNeeds ++ [32] ++ q))) ++ d.keeping.map (fun q => V.str (tx (wKeeps ++ [32] ++ q.1 ++ [32] ++ wOf ++ [32] ++ q.2))))) = H5 at g5 h5
    refine rd_cut (fun σ' H' => σ' = [some (.ref p), some (.ref l3), none, none, none, none, none, none, none] ∧ Grow [] F H F1 H' ∧ Hold F1 H' l3 (.lst (d.heads.map wd))) ?_ ?_
    · have hp5 := g5.same _ _ hp
      have eh : d.heads.map wd = [.str (tx ([] ++ [108, 105, 98, 114, 97, 114, 121, 32] ++ d.name))] ++ d.parts.map (fun q => .str (tx (wNeeds ++ [32] ++ q))) ++ d.keeping.map (fun q => V.str (tx (wKeeps ++ [32] ++ q.1 ++ [32] ++ wOf ++ [32] ++ q.2))) ++ (match d.hook with | none => [] | some h => [.str (tx (wHook ++ [32] ++ h))]) := by
        unfold Draft.heads
        rw [List.map_append, List.map_append, List.map_append, List.map_map, List.map_map]
        cases d.hook <;> rfl
      lcg_off
      refine rd_fldK hp5 T.cl_Library T.no_Library_root_hook L.hk ?_
      lcg_off
      cases hhk : d.hook with
      | none =>
        refine ifN (fun c => absurd rfl c) (fun c => ?_)
        lcg_off
        rw [hhk] at eh
        rw [eh, List.append_nil]
        exact ⟨rfl, g5, h5⟩
      | some hk =>
        refine ifN (fun _ => ?_) (fun c => by cases c)
        have hkl := (wf.hk hk hhk).2
        have h5h := h5.h
        lcg_off
        have hLhk := L.hk
        rw [hhk] at hLhk
        refine rd_fldK hp5 T.cl_Library T.no_Library_root_hook hLhk ?_
        show FmtK (.str (tx hk)) _ _
        lcg_off
        refine rd_append h5.h (by simp; exact sz_lt (by omega)) ?_
        lcg_off
        rw [hhk] at eh
        rw [eh]
        exact ⟨rfl, g5.mut h5.f (.inr (g2.free n3)), h5.put⟩
    · rintro σ' H6 ⟨rfl, g6, h6⟩
      have hrp6 : SqL K H6 rp rs := g6.fh.seq (g6.ff.seq hrp)
      have hhl := d.heads_len wf
      have hrsl : rs.length = d.rows.length := by simpa using hrs.length
      lcg_off
      refine rd_fldK (g6.same _ _ hp) T.cl_Library T.no_Library_rows L.ro ?_
      lcg_off
      refine fk_list (xs := rs) (fun i σ H7 => ∃ F7, Grow [] F H F7 H7 ∧ Hold F7 H7 l3 (.lst ((d.heads ++ (d.rows.take i).map Row3.line).map wd)) ∧ ∃ v5 v6 v7 v8, σ = [some (.ref p), some (.ref l3), none, none, none, v5, v6, v7, v8]) ⟨F1, g6, by simpa using h6, none, none, none, none, rfl⟩ (fun i σ H7 _ ⟨F7, g7, _, _⟩ => g7.fh.seq (g7.ff.seq hrp)) ?_ ?_
      · rintro i x σ H7 hx ⟨F7, g7, h7, v5, v6, v7, v8, rfl⟩
        obtain ⟨dd, z1, z2⟩ := hrs.get hx
        rw [List.getElem?_map] at z1
        cases hr : d.rows[i]? with
        | none => rw [hr] at z1; cases z1
        | some r =>
          rw [hr] at z1
          cases z1
          obtain ⟨t, c, rfl, ht, hc⟩ := tup3 z2
          have wr := wf.rw r (List.mem_of_getElem? hr)
          have ht7 : SqT K H7 t _ := sqT_same (g7.ff.trans g7.fh) ht
          have hc7 : SqT K H7 c _ := sqT_same (g7.ff.trans g7.fh) hc
          have w1 := wr.s.2
          have w2 := wr.m.2
          have w3 := spaced_le wr.l wr.c
          have h7h := h7.h
          have hll : ((d.heads ++ (d.rows.take i).map Row3.line).map wd).length < 100 := by
            simp
            omega
          have fin : ∀ (F8 H8 : Hp) (q : Wd), Grow [] F7 H7 F8 H8 → Hold F8 H8 l3 (.lst ((d.heads ++ (d.rows.take i).map Row3.line).map wd)) → q = r.line → ∀ v5 v6 v7 v8, (fun (σ : L2.St) (H7 : Hp) => ∃ F7, Grow [] F H F7 H7 ∧ Hold F7 H7 l3 (.lst ((d.heads ++ (d.rows.take (i + 1)).map Row3.line).map wd)) ∧ ∃ v5 v6 v7 v8, σ = [some (.ref p), some (.ref l3), none, none, none, v5, v6, v7, v8])
              [some (.ref p), some (.ref l3), none, none, none, v5, v6, v7, v8] (upd H8 l3 (.lst ((d.heads ++ (d.rows.take i).map Row3.line).map wd ++ [.str (tx q)]))) := by
            intro F8 H8 q g8 h8 e v5 v6 v7 v8
            subst e
            refine ⟨F8, (g7.trans g8).mut h8.f (.inr (g2.free n3)), ?_, v5, v6, v7, v8, rfl⟩
            have e2 : (d.heads ++ (d.rows.take (i + 1)).map Row3.line).map wd = (d.heads ++ (d.rows.take i).map Row3.line).map wd ++ [.str (tx r.line)] := by
              obtain ⟨i1, i2⟩ := List.getElem?_eq_some_iff.mp hr
              rw [List.take_succ_eq_append_getElem i1, i2]
              simp [wd]
            rw [e2]
            exact h8.put
          lcg_off
          refine ⟨r.sign, rfl, ?_⟩
          lcg_off
          refine ifD (fun c1 => ?_) (fun c1 => ?_)
          · have c1' : arityN r.sign = 0 := by have := V.int.inj c1; omega
            lcg_off
            refine rd_append h7.h (sz_lt (by omega)) ?_
            lcg_off
            refine fin F7 H7 _ (Grow.refl g7.fh) h7 ?_ _ _ _ _
            unfold Row3.line
            rw [if_pos c1']
            unfold wMake wBy
            simp
          · have c1' : arityN r.sign ≠ 0 := fun z => c1 (by rw [z]; rfl)
            lcg_off
            refine newT g7.fh fun F8 H8 t8 g8 n8 e8 => ?_
            have h8 := h7.go0 g8
            have h8h := h8.h
            have hc8 := sqT_same g8.same hc7
            refine rd_eqWT (vs := []) hc8 (sqT_of (g8.fh _ _ e8)) (fun w hw => (wr.c w hw).1) (fun w hw => by cases hw) ?_
            lcg_off
            refine ifD (fun c2 => ?_) (fun c2 => ?_)
            · lcg_off
              refine rd_append h8.h (sz_lt (by omega)) ?_
              lcg_off
              refine fin F8 H8 _ g8 h8 ?_ _ _ _ _
              unfold Row3.line
              rw [if_neg c1', if_pos c2]
              unfold wBy
              simp
            · lcg_off
              refine rd_joinW (.inr hc8) (by have := spaced_len wr.l wr.c; show (r.changed.map (·.length)).sum + r.changed.length * 1 ≤ 100000; omega) ?_
              rw [show TL.joinL [32] r.changed = spaced r.changed from rfl]
              lcg_off
              refine rd_append h8.h (sz_lt (by omega)) ?_
              lcg_off
              refine fin F8 H8 _ g8 h8 ?_ _ _ _ _
              unfold Row3.line
              rw [if_neg c1', if_neg c2]
              unfold wBy wChanges
              simp
      · rintro σ H7 ⟨F7, g7, h7, v5, v6, v7, v8, rfl⟩
        lcg_off
        rw [hrsl, List.take_length, ← Draft.lines_eq] at h7
        exact k (upd F7 l3 _) H7 l3 (g7.frz h7.h h7.f (g2.free n3)) upd_same
end
end Lb

namespace Lb
open PySem L2 Hk
def fM (v0 v1 v2 v3 v4 v5 v6 v7 : V) : List (Str × V) := [("name", v0), ("root_parameters", v1), ("kept", v2), ("root_hook", v3), ("rows", v4), ("order", v5), ("changes", v6), ("made_by", v7)]
theorem fM_name {v0 v1 v2 v3 v4 v5 v6 v7 : V} : (fM v0 v1 v2 v3 v4 v5 v6 v7).lookup ("name" : Str) = some v0 := by
  unfold fM
  rw [List.lookup_cons_self]
theorem fM_root_parameters {v0 v1 v2 v3 v4 v5 v6 v7 : V} : (fM v0 v1 v2 v3 v4 v5 v6 v7).lookup ("root_parameters" : Str) = some v1 := by
  unfold fM
  rw [List.lookup_cons, show (("root_parameters" : Str) == "name") = false by decide +kernel, List.lookup_cons_self]
theorem fM_kept {v0 v1 v2 v3 v4 v5 v6 v7 : V} : (fM v0 v1 v2 v3 v4 v5 v6 v7).lookup ("kept" : Str) = some v2 := by
  unfold fM
  rw [List.lookup_cons, show (("kept" : Str) == "name") = false by decide +kernel, List.lookup_cons, show (("kept" : Str) == "root_parameters") = false by decide +kernel, List.lookup_cons_self]
theorem fM_root_hook {v0 v1 v2 v3 v4 v5 v6 v7 : V} : (fM v0 v1 v2 v3 v4 v5 v6 v7).lookup ("root_hook" : Str) = some v3 := by
  unfold fM
  rw [List.lookup_cons, show (("root_hook" : Str) == "name") = false by decide +kernel, List.lookup_cons, show (("root_hook" : Str) == "root_parameters") = false by decide +kernel, List.lookup_cons, show (("root_hook" : Str) == "kept") = false by decide +kernel, List.lookup_cons_self]
theorem fM_rows {v0 v1 v2 v3 v4 v5 v6 v7 : V} : (fM v0 v1 v2 v3 v4 v5 v6 v7).lookup ("rows" : Str) = some v4 := by
  unfold fM
  rw [List.lookup_cons, show (("rows" : Str) == "name") = false by decide +kernel, List.lookup_cons, show (("rows" : Str) == "root_parameters") = false by decide +kernel, List.lookup_cons, show (("rows" : Str) == "kept") = false by decide +kernel, List.lookup_cons, show (("rows" : Str) == "root_hook") = false by decide +kernel, List.lookup_cons_self]
theorem fM_order {v0 v1 v2 v3 v4 v5 v6 v7 : V} : (fM v0 v1 v2 v3 v4 v5 v6 v7).lookup ("order" : Str) = some v5 := by
  unfold fM
  rw [List.lookup_cons, show (("order" : Str) == "name") = false by decide +kernel, List.lookup_cons, show (("order" : Str) == "root_parameters") = false by decide +kernel, List.lookup_cons, show (("order" : Str) == "kept") = false by decide +kernel, List.lookup_cons, show (("order" : Str) == "root_hook") = false by decide +kernel, List.lookup_cons, show (("order" : Str) == "rows") = false by decide +kernel, List.lookup_cons_self]
theorem fM_changes {v0 v1 v2 v3 v4 v5 v6 v7 : V} : (fM v0 v1 v2 v3 v4 v5 v6 v7).lookup ("changes" : Str) = some v6 := by
  unfold fM
  rw [List.lookup_cons, show (("changes" : Str) == "name") = false by decide +kernel, List.lookup_cons, show (("changes" : Str) == "root_parameters") = false by decide +kernel, List.lookup_cons, show (("changes" : Str) == "kept") = false by decide +kernel, List.lookup_cons, show (("changes" : Str) == "root_hook") = false by decide +kernel, List.lookup_cons, show (("changes" : Str) == "rows") = false by decide +kernel, List.lookup_cons, show (("changes" : Str) == "order") = false by decide +kernel, List.lookup_cons_self]
theorem fM_made_by {v0 v1 v2 v3 v4 v5 v6 v7 : V} : (fM v0 v1 v2 v3 v4 v5 v6 v7).lookup ("made_by" : Str) = some v7 := by
  unfold fM
  rw [List.lookup_cons, show (("made_by" : Str) == "name") = false by decide +kernel, List.lookup_cons, show (("made_by" : Str) == "root_parameters") = false by decide +kernel, List.lookup_cons, show (("made_by" : Str) == "kept") = false by decide +kernel, List.lookup_cons, show (("made_by" : Str) == "root_hook") = false by decide +kernel, List.lookup_cons, show (("made_by" : Str) == "rows") = false by decide +kernel, List.lookup_cons, show (("made_by" : Str) == "order") = false by decide +kernel, List.lookup_cons, show (("made_by" : Str) == "changes") = false by decide +kernel, List.lookup_cons_self]
theorem fM_put_name {v0 v1 v2 v3 v4 v5 v6 v7 u : V} : putF "name" u (fM v0 v1 v2 v3 v4 v5 v6 v7) = fM u v1 v2 v3 v4 v5 v6 v7 := by
  show (if ("name" : Str) = "name" then (("name" : Str), u) :: [(("root_parameters" : Str), v1), (("kept" : Str), v2), (("root_hook" : Str), v3), (("rows" : Str), v4), (("order" : Str), v5), (("changes" : Str), v6), (("made_by" : Str), v7)] else _) = _
  rw [if_pos rfl]
  rfl
theorem fM_put_root_parameters {v0 v1 v2 v3 v4 v5 v6 v7 u : V} : putF "root_parameters" u (fM v0 v1 v2 v3 v4 v5 v6 v7) = fM v0 u v2 v3 v4 v5 v6 v7 := by
  show (if ("name" : Str) = "root_parameters" then _ else (("name" : Str), v0) :: (if ("root_parameters" : Str) = "root_parameters" then (("root_parameters" : Str), u) :: [(("kept" : Str), v2), (("root_hook" : Str), v3), (("rows" : Str), v4), (("order" : Str), v5), (("changes" : Str), v6), (("made_by" : Str), v7)] else _)) = _
  rw [if_neg (by decide +kernel), if_pos rfl]
  rfl
theorem fM_put_kept {v0 v1 v2 v3 v4 v5 v6 v7 u : V} : putF "kept" u (fM v0 v1 v2 v3 v4 v5 v6 v7) = fM v0 v1 u v3 v4 v5 v6 v7 := by
  show (if ("name" : Str) = "kept" then _ else (("name" : Str), v0) :: (if ("root_parameters" : Str) = "kept" then _ else (("root_parameters" : Str), v1) :: (if ("kept" : Str) = "kept" then (("kept" : Str), u) :: [(("root_hook" : Str), v3), (("rows" : Str), v4), (("order" : Str), v5), (("changes" : Str), v6), (("made_by" : Str), v7)] else _))) = _
  rw [if_neg (by decide +kernel), if_neg (by decide +kernel), if_pos rfl]
  rfl
theorem fM_put_root_hook {v0 v1 v2 v3 v4 v5 v6 v7 u : V} : putF "root_hook" u (fM v0 v1 v2 v3 v4 v5 v6 v7) = fM v0 v1 v2 u v4 v5 v6 v7 := by
  show (if ("name" : Str) = "root_hook" then _ else (("name" : Str), v0) :: (if ("root_parameters" : Str) = "root_hook" then _ else (("root_parameters" : Str), v1) :: (if ("kept" : Str) = "root_hook" then _ else (("kept" : Str), v2) :: (if ("root_hook" : Str) = "root_hook" then (("root_hook" : Str), u) :: [(("rows" : Str), v4), (("order" : Str), v5), (("changes" : Str), v6), (("made_by" : Str), v7)] else _)))) = _
  rw [if_neg (by decide +kernel), if_neg (by decide +kernel), if_neg (by decide +kernel), if_pos rfl]
  rfl
theorem fM_put_rows {v0 v1 v2 v3 v4 v5 v6 v7 u : V} : putF "rows" u (fM v0 v1 v2 v3 v4 v5 v6 v7) = fM v0 v1 v2 v3 u v5 v6 v7 := by
  show (if ("name" : Str) = "rows" then _ else (("name" : Str), v0) :: (if ("root_parameters" : Str) = "rows" then _ else (("root_parameters" : Str), v1) :: (if ("kept" : Str) = "rows" then _ else (("kept" : Str), v2) :: (if ("root_hook" : Str) = "rows" then _ else (("root_hook" : Str), v3) :: (if ("rows" : Str) = "rows" then (("rows" : Str), u) :: [(("order" : Str), v5), (("changes" : Str), v6), (("made_by" : Str), v7)] else _))))) = _
  rw [if_neg (by decide +kernel), if_neg (by decide +kernel), if_neg (by decide +kernel), if_neg (by decide +kernel), if_pos rfl]
  rfl
theorem fM_put_order {v0 v1 v2 v3 v4 v5 v6 v7 u : V} : putF "order" u (fM v0 v1 v2 v3 v4 v5 v6 v7) = fM v0 v1 v2 v3 v4 u v6 v7 := by
  show (if ("name" : Str) = "order" then _ else (("name" : Str), v0) :: (if ("root_parameters" : Str) = "order" then _ else (("root_parameters" : Str), v1) :: (if ("kept" : Str) = "order" then _ else (("kept" : Str), v2) :: (if ("root_hook" : Str) = "order" then _ else (("root_hook" : Str), v3) :: (if ("rows" : Str) = "order" then _ else (("rows" : Str), v4) :: (if ("order" : Str) = "order" then (("order" : Str), u) :: [(("changes" : Str), v6), (("made_by" : Str), v7)] else _)))))) = _
  rw [if_neg (by decide +kernel), if_neg (by decide +kernel), if_neg (by decide +kernel), if_neg (by decide +kernel), if_neg (by decide +kernel), if_pos rfl]
  rfl
theorem fM_put_changes {v0 v1 v2 v3 v4 v5 v6 v7 u : V} : putF "changes" u (fM v0 v1 v2 v3 v4 v5 v6 v7) = fM v0 v1 v2 v3 v4 v5 u v7 := by
  show (if ("name" : Str) = "changes" then _ else (("name" : Str), v0) :: (if ("root_parameters" : Str) = "changes" then _ else (("root_parameters" : Str), v1) :: (if ("kept" : Str) = "changes" then _ else (("kept" : Str), v2) :: (if ("root_hook" : Str) = "changes" then _ else (("root_hook" : Str), v3) :: (if ("rows" : Str) = "changes" then _ else (("rows" : Str), v4) :: (if ("order" : Str) = "changes" then _ else (("order" : Str), v5) :: (if ("changes" : Str) = "changes" then (("changes" : Str), u) :: [(("made_by" : Str), v7)] else _))))))) = _
  rw [if_neg (by decide +kernel), if_neg (by decide +kernel), if_neg (by decide +kernel), if_neg (by decide +kernel), if_neg (by decide +kernel), if_neg (by decide +kernel), if_pos rfl]
  rfl
theorem fM_put_made_by {v0 v1 v2 v3 v4 v5 v6 v7 u : V} : putF "made_by" u (fM v0 v1 v2 v3 v4 v5 v6 v7) = fM v0 v1 v2 v3 v4 v5 v6 u := by
  show (if ("name" : Str) = "made_by" then _ else (("name" : Str), v0) :: (if ("root_parameters" : Str) = "made_by" then _ else (("root_parameters" : Str), v1) :: (if ("kept" : Str) = "made_by" then _ else (("kept" : Str), v2) :: (if ("root_hook" : Str) = "made_by" then _ else (("root_hook" : Str), v3) :: (if ("rows" : Str) = "made_by" then _ else (("rows" : Str), v4) :: (if ("order" : Str) = "made_by" then _ else (("order" : Str), v5) :: (if ("changes" : Str) = "made_by" then _ else (("changes" : Str), v6) :: (if ("made_by" : Str) = "made_by" then (("made_by" : Str), u) :: [] else _)))))))) = _
  rw [if_neg (by decide +kernel), if_neg (by decide +kernel), if_neg (by decide +kernel), if_neg (by decide +kernel), if_neg (by decide +kernel), if_neg (by decide +kernel), if_neg (by decide +kernel), if_pos rfl]
  rfl
theorem fM_no {m : Str} {v0 v1 v2 v3 v4 v5 v6 v7 : V} (h0 : (m == ("name" : Str)) = false) (h1 : (m == ("root_parameters" : Str)) = false) (h2 : (m == ("kept" : Str)) = false) (h3 : (m == ("root_hook" : Str)) = false) (h4 : (m == ("rows" : Str)) = false) (h5 : (m == ("order" : Str)) = false) (h6 : (m == ("changes" : Str)) = false) (h7 : (m == ("made_by" : Str)) = false) : (fM v0 v1 v2 v3 v4 v5 v6 v7).lookup m = none := by
  unfold fM
  rw [List.lookup_cons, h0, List.lookup_cons, h1, List.lookup_cons, h2, List.lookup_cons, h3, List.lookup_cons, h4, List.lookup_cons, h5, List.lookup_cons, h6, List.lookup_cons, h7]
  rfl
theorem fM_new0 {v0 : V} : putF "name" v0 [] = [(("name" : Str), v0)] := by
  show putF "name" v0 [] = _
  rfl
theorem fM_new1 {v0 v1 : V} : putF "root_parameters" v1 [(("name" : Str), v0)] = [(("name" : Str), v0), (("root_parameters" : Str), v1)] := by
  show (if ("name" : Str) = "root_parameters" then _ else (("name" : Str), v0) :: putF "root_parameters" v1 []) = _
  rw [if_neg (by decide +kernel)]
  rfl
theorem fM_new2 {v0 v1 v2 : V} : putF "kept" v2 [(("name" : Str), v0), (("root_parameters" : Str), v1)] = [(("name" : Str), v0), (("root_parameters" : Str), v1), (("kept" : Str), v2)] := by
  show (if ("name" : Str) = "kept" then _ else (("name" : Str), v0) :: (if ("root_parameters" : Str) = "kept" then _ else (("root_parameters" : Str), v1) :: putF "kept" v2 [])) = _
  rw [if_neg (by decide +kernel), if_neg (by decide +kernel)]
  rfl
theorem fM_new3 {v0 v1 v2 v3 : V} : putF "root_hook" v3 [(("name" : Str), v0), (("root_parameters" : Str), v1), (("kept" : Str), v2)] = [(("name" : Str), v0), (("root_parameters" : Str), v1), (("kept" : Str), v2), (("root_hook" : Str), v3)] := by
  show (if ("name" : Str) = "root_hook" then _ else (("name" : Str), v0) :: (if ("root_parameters" : Str) = "root_hook" then _ else (("root_parameters" : Str), v1) :: (if ("kept" : Str) = "root_hook" then _ else (("kept" : Str), v2) :: putF "root_hook" v3 []))) = _
  rw [if_neg (by decide +kernel), if_neg (by decide +kernel), if_neg (by decide +kernel)]
  rfl
theorem fM_new4 {v0 v1 v2 v3 v4 : V} : putF "rows" v4 [(("name" : Str), v0), (("root_parameters" : Str), v1), (("kept" : Str), v2), (("root_hook" : Str), v3)] = [(("name" : Str), v0), (("root_parameters" : Str), v1), (("kept" : Str), v2), (("root_hook" : Str), v3), (("rows" : Str), v4)] := by
  show (if ("name" : Str) = "rows" then _ else (("name" : Str), v0) :: (if ("root_parameters" : Str) = "rows" then _ else (("root_parameters" : Str), v1) :: (if ("kept" : Str) = "rows" then _ else (("kept" : Str), v2) :: (if ("root_hook" : Str) = "rows" then _ else (("root_hook" : Str), v3) :: putF "rows" v4 [])))) = _
  rw [if_neg (by decide +kernel), if_neg (by decide +kernel), if_neg (by decide +kernel), if_neg (by decide +kernel)]
  rfl
theorem fM_new5 {v0 v1 v2 v3 v4 v5 : V} : putF "order" v5 [(("name" : Str), v0), (("root_parameters" : Str), v1), (("kept" : Str), v2), (("root_hook" : Str), v3), (("rows" : Str), v4)] = [(("name" : Str), v0), (("root_parameters" : Str), v1), (("kept" : Str), v2), (("root_hook" : Str), v3), (("rows" : Str), v4), (("order" : Str), v5)] := by
  show (if ("name" : Str) = "order" then _ else (("name" : Str), v0) :: (if ("root_parameters" : Str) = "order" then _ else (("root_parameters" : Str), v1) :: (if ("kept" : Str) = "order" then _ else (("kept" : Str), v2) :: (if ("root_hook" : Str) = "order" then _ else (("root_hook" : Str), v3) :: (if ("rows" : Str) = "order" then _ else (("rows" : Str), v4) :: putF "order" v5 []))))) = _
  rw [if_neg (by decide +kernel), if_neg (by decide +kernel), if_neg (by decide +kernel), if_neg (by decide +kernel), if_neg (by decide +kernel)]
  rfl
theorem fM_new6 {v0 v1 v2 v3 v4 v5 v6 : V} : putF "changes" v6 [(("name" : Str), v0), (("root_parameters" : Str), v1), (("kept" : Str), v2), (("root_hook" : Str), v3), (("rows" : Str), v4), (("order" : Str), v5)] = [(("name" : Str), v0), (("root_parameters" : Str), v1), (("kept" : Str), v2), (("root_hook" : Str), v3), (("rows" : Str), v4), (("order" : Str), v5), (("changes" : Str), v6)] := by
  show (if ("name" : Str) = "changes" then _ else (("name" : Str), v0) :: (if ("root_parameters" : Str) = "changes" then _ else (("root_parameters" : Str), v1) :: (if ("kept" : Str) = "changes" then _ else (("kept" : Str), v2) :: (if ("root_hook" : Str) = "changes" then _ else (("root_hook" : Str), v3) :: (if ("rows" : Str) = "changes" then _ else (("rows" : Str), v4) :: (if ("order" : Str) = "changes" then _ else (("order" : Str), v5) :: putF "changes" v6 [])))))) = _
  rw [if_neg (by decide +kernel), if_neg (by decide +kernel), if_neg (by decide +kernel), if_neg (by decide +kernel), if_neg (by decide +kernel), if_neg (by decide +kernel)]
  rfl
theorem fM_new7 {v0 v1 v2 v3 v4 v5 v6 v7 : V} : putF "made_by" v7 [(("name" : Str), v0), (("root_parameters" : Str), v1), (("kept" : Str), v2), (("root_hook" : Str), v3), (("rows" : Str), v4), (("order" : Str), v5), (("changes" : Str), v6)] = [(("name" : Str), v0), (("root_parameters" : Str), v1), (("kept" : Str), v2), (("root_hook" : Str), v3), (("rows" : Str), v4), (("order" : Str), v5), (("changes" : Str), v6), (("made_by" : Str), v7)] := by
  show (if ("name" : Str) = "made_by" then _ else (("name" : Str), v0) :: (if ("root_parameters" : Str) = "made_by" then _ else (("root_parameters" : Str), v1) :: (if ("kept" : Str) = "made_by" then _ else (("kept" : Str), v2) :: (if ("root_hook" : Str) = "made_by" then _ else (("root_hook" : Str), v3) :: (if ("rows" : Str) = "made_by" then _ else (("rows" : Str), v4) :: (if ("order" : Str) = "made_by" then _ else (("order" : Str), v5) :: (if ("changes" : Str) = "made_by" then _ else (("changes" : Str), v6) :: putF "made_by" v7 []))))))) = _
  rw [if_neg (by decide +kernel), if_neg (by decide +kernel), if_neg (by decide +kernel), if_neg (by decide +kernel), if_neg (by decide +kernel), if_neg (by decide +kernel), if_neg (by decide +kernel)]
  rfl
section
variable {K : PySem.W.Frag} {mg : Str → Option Value} {a : Ad} {H : Hp} {Q : VK} {p dx : Addr} {v0 v1 v2 v3 v4 v5 v6 v7 : V} {σ : L2.St}
theorem fldM_name (T : Txt K mg a) (e : H p = some (.ins a.C_Library dx (fM v0 v1 v2 v3 v4 v5 v6 v7))) (k : Q v0 H) : FldK K "name" (.ref p) H Q := rd_fldK e T.cl_Library T.no_Library_name fM_name k
theorem fldM_root_parameters (T : Txt K mg a) (e : H p = some (.ins a.C_Library dx (fM v0 v1 v2 v3 v4 v5 v6 v7))) (k : Q v1 H) : FldK K "root_parameters" (.ref p) H Q := rd_fldK e T.cl_Library T.no_Library_root_parameters fM_root_parameters k
theorem fldM_kept (T : Txt K mg a) (e : H p = some (.ins a.C_Library dx (fM v0 v1 v2 v3 v4 v5 v6 v7))) (k : Q v2 H) : FldK K "kept" (.ref p) H Q := rd_fldK e T.cl_Library T.no_Library_kept fM_kept k
theorem fldM_root_hook (T : Txt K mg a) (e : H p = some (.ins a.C_Library dx (fM v0 v1 v2 v3 v4 v5 v6 v7))) (k : Q v3 H) : FldK K "root_hook" (.ref p) H Q := rd_fldK e T.cl_Library T.no_Library_root_hook fM_root_hook k
theorem fldM_rows (T : Txt K mg a) (e : H p = some (.ins a.C_Library dx (fM v0 v1 v2 v3 v4 v5 v6 v7))) (k : Q v4 H) : FldK K "rows" (.ref p) H Q := rd_fldK e T.cl_Library T.no_Library_rows fM_rows k
theorem fldM_order (T : Txt K mg a) (e : H p = some (.ins a.C_Library dx (fM v0 v1 v2 v3 v4 v5 v6 v7))) (k : Q v5 H) : FldK K "order" (.ref p) H Q := rd_fldK e T.cl_Library T.no_Library_order fM_order k
theorem fldM_changes (T : Txt K mg a) (e : H p = some (.ins a.C_Library dx (fM v0 v1 v2 v3 v4 v5 v6 v7))) (k : Q v6 H) : FldK K "changes" (.ref p) H Q := rd_fldK e T.cl_Library T.no_Library_changes fM_changes k
theorem fldM_made_by (T : Txt K mg a) (e : H p = some (.ins a.C_Library dx (fM v0 v1 v2 v3 v4 v5 v6 v7))) (k : Q v7 H) : FldK K "made_by" (.ref p) H Q := rd_fldK e T.cl_Library T.no_Library_made_by fM_made_by k
theorem methM {m : Str} {sp : Sp} {E : XK} {tt : TA} (e : H p = some (.ins a.C_Library dx (fM v0 v1 v2 v3 v4 v5 v6 v7))) (h0 : (m == ("name" : Str)) = false) (h1 : (m == ("root_parameters" : Str)) = false) (h2 : (m == ("kept" : Str)) = false) (h3 : (m == ("root_hook" : Str)) = false) (h4 : (m == ("rows" : Str)) = false) (h5 : (m == ("order" : Str)) = false) (h6 : (m == ("changes" : Str)) = false) (h7 : (m == ("made_by" : Str)) = false) (q : tt σ H fun vs H2 => sp (.ref p :: (vs ++ [])) H2 Q E) : MethK a.C_Library m sp E tt σ (.ref p) H Q := rd_methK e (fM_no h0 h1 h2 h3 h4 h5 h6 h7) q
end

def fL (v0 v1 v2 v3 v4 v5 v6 v7 v8 : V) : List (Str × V) := [("name", v0), ("root_parameters", v1), ("kept", v2), ("root_hook", v3), ("rows", v4), ("order", v5), ("changes", v6), ("made_by", v7), ("text", v8)]
theorem fL_name {v0 v1 v2 v3 v4 v5 v6 v7 v8 : V} : (fL v0 v1 v2 v3 v4 v5 v6 v7 v8).lookup ("name" : Str) = some v0 := by
  unfold fL
  rw [List.lookup_cons_self]
theorem fL_root_parameters {v0 v1 v2 v3 v4 v5 v6 v7 v8 : V} : (fL v0 v1 v2 v3 v4 v5 v6 v7 v8).lookup ("root_parameters" : Str) = some v1 := by
  unfold fL
  rw [List.lookup_cons, show (("root_parameters" : Str) == "name") = false by decide +kernel, List.lookup_cons_self]
theorem fL_kept {v0 v1 v2 v3 v4 v5 v6 v7 v8 : V} : (fL v0 v1 v2 v3 v4 v5 v6 v7 v8).lookup ("kept" : Str) = some v2 := by
  unfold fL
  rw [List.lookup_cons, show (("kept" : Str) == "name") = false by decide +kernel, List.lookup_cons, show (("kept" : Str) == "root_parameters") = false by decide +kernel, List.lookup_cons_self]
theorem fL_root_hook {v0 v1 v2 v3 v4 v5 v6 v7 v8 : V} : (fL v0 v1 v2 v3 v4 v5 v6 v7 v8).lookup ("root_hook" : Str) = some v3 := by
  unfold fL
  rw [List.lookup_cons, show (("root_hook" : Str) == "name") = false by decide +kernel, List.lookup_cons, show (("root_hook" : Str) == "root_parameters") = false by decide +kernel, List.lookup_cons, show (("root_hook" : Str) == "kept") = false by decide +kernel, List.lookup_cons_self]
theorem fL_rows {v0 v1 v2 v3 v4 v5 v6 v7 v8 : V} : (fL v0 v1 v2 v3 v4 v5 v6 v7 v8).lookup ("rows" : Str) = some v4 := by
  unfold fL
  rw [List.lookup_cons, show (("rows" : Str) == "name") = false by decide +kernel, List.lookup_cons, show (("rows" : Str) == "root_parameters") = false by decide +kernel, List.lookup_cons, show (("rows" : Str) == "kept") = false by decide +kernel, List.lookup_cons, show (("rows" : Str) == "root_hook") = false by decide +kernel, List.lookup_cons_self]
theorem fL_order {v0 v1 v2 v3 v4 v5 v6 v7 v8 : V} : (fL v0 v1 v2 v3 v4 v5 v6 v7 v8).lookup ("order" : Str) = some v5 := by
  unfold fL
  rw [List.lookup_cons, show (("order" : Str) == "name") = false by decide +kernel, List.lookup_cons, show (("order" : Str) == "root_parameters") = false by decide +kernel, List.lookup_cons, show (("order" : Str) == "kept") = false by decide +kernel, List.lookup_cons, show (("order" : Str) == "root_hook") = false by decide +kernel, List.lookup_cons, show (("order" : Str) == "rows") = false by decide +kernel, List.lookup_cons_self]
theorem fL_changes {v0 v1 v2 v3 v4 v5 v6 v7 v8 : V} : (fL v0 v1 v2 v3 v4 v5 v6 v7 v8).lookup ("changes" : Str) = some v6 := by
  unfold fL
  rw [List.lookup_cons, show (("changes" : Str) == "name") = false by decide +kernel, List.lookup_cons, show (("changes" : Str) == "root_parameters") = false by decide +kernel, List.lookup_cons, show (("changes" : Str) == "kept") = false by decide +kernel, List.lookup_cons, show (("changes" : Str) == "root_hook") = false by decide +kernel, List.lookup_cons, show (("changes" : Str) == "rows") = false by decide +kernel, List.lookup_cons, show (("changes" : Str) == "order") = false by decide +kernel, List.lookup_cons_self]
theorem fL_made_by {v0 v1 v2 v3 v4 v5 v6 v7 v8 : V} : (fL v0 v1 v2 v3 v4 v5 v6 v7 v8).lookup ("made_by" : Str) = some v7 := by
  unfold fL
  rw [List.lookup_cons, show (("made_by" : Str) == "name") = false by decide +kernel, List.lookup_cons, show (("made_by" : Str) == "root_parameters") = false by decide +kernel, List.lookup_cons, show (("made_by" : Str) == "kept") = false by decide +kernel, List.lookup_cons, show (("made_by" : Str) == "root_hook") = false by decide +kernel, List.lookup_cons, show (("made_by" : Str) == "rows") = false by decide +kernel, List.lookup_cons, show (("made_by" : Str) == "order") = false by decide +kernel, List.lookup_cons, show (("made_by" : Str) == "changes") = false by decide +kernel, List.lookup_cons_self]
theorem fL_text {v0 v1 v2 v3 v4 v5 v6 v7 v8 : V} : (fL v0 v1 v2 v3 v4 v5 v6 v7 v8).lookup ("text" : Str) = some v8 := by
  unfold fL
  rw [List.lookup_cons, show (("text" : Str) == "name") = false by decide +kernel, List.lookup_cons, show (("text" : Str) == "root_parameters") = false by decide +kernel, List.lookup_cons, show (("text" : Str) == "kept") = false by decide +kernel, List.lookup_cons, show (("text" : Str) == "root_hook") = false by decide +kernel, List.lookup_cons, show (("text" : Str) == "rows") = false by decide +kernel, List.lookup_cons, show (("text" : Str) == "order") = false by decide +kernel, List.lookup_cons, show (("text" : Str) == "changes") = false by decide +kernel, List.lookup_cons, show (("text" : Str) == "made_by") = false by decide +kernel, List.lookup_cons_self]
theorem fL_put_name {v0 v1 v2 v3 v4 v5 v6 v7 v8 u : V} : putF "name" u (fL v0 v1 v2 v3 v4 v5 v6 v7 v8) = fL u v1 v2 v3 v4 v5 v6 v7 v8 := by
  show (if ("name" : Str) = "name" then (("name" : Str), u) :: [(("root_parameters" : Str), v1), (("kept" : Str), v2), (("root_hook" : Str), v3), (("rows" : Str), v4), (("order" : Str), v5), (("changes" : Str), v6), (("made_by" : Str), v7), (("text" : Str), v8)] else _) = _
  rw [if_pos rfl]
  rfl
theorem fL_put_root_parameters {v0 v1 v2 v3 v4 v5 v6 v7 v8 u : V} : putF "root_parameters" u (fL v0 v1 v2 v3 v4 v5 v6 v7 v8) = fL v0 u v2 v3 v4 v5 v6 v7 v8 := by
  show (if ("name" : Str) = "root_parameters" then _ else (("name" : Str), v0) :: (if ("root_parameters" : Str) = "root_parameters" then (("root_parameters" : Str), u) :: [(("kept" : Str), v2), (("root_hook" : Str), v3), (("rows" : Str), v4), (("order" : Str), v5), (("changes" : Str), v6), (("made_by" : Str), v7), (("text" : Str), v8)] else _)) = _
  rw [if_neg (by decide +kernel), if_pos rfl]
  rfl
theorem fL_put_kept {v0 v1 v2 v3 v4 v5 v6 v7 v8 u : V} : putF "kept" u (fL v0 v1 v2 v3 v4 v5 v6 v7 v8) = fL v0 v1 u v3 v4 v5 v6 v7 v8 := by
  show (if ("name" : Str) = "kept" then _ else (("name" : Str), v0) :: (if ("root_parameters" : Str) = "kept" then _ else (("root_parameters" : Str), v1) :: (if ("kept" : Str) = "kept" then (("kept" : Str), u) :: [(("root_hook" : Str), v3), (("rows" : Str), v4), (("order" : Str), v5), (("changes" : Str), v6), (("made_by" : Str), v7), (("text" : Str), v8)] else _))) = _
  rw [if_neg (by decide +kernel), if_neg (by decide +kernel), if_pos rfl]
  rfl
theorem fL_put_root_hook {v0 v1 v2 v3 v4 v5 v6 v7 v8 u : V} : putF "root_hook" u (fL v0 v1 v2 v3 v4 v5 v6 v7 v8) = fL v0 v1 v2 u v4 v5 v6 v7 v8 := by
  show (if ("name" : Str) = "root_hook" then _ else (("name" : Str), v0) :: (if ("root_parameters" : Str) = "root_hook" then _ else (("root_parameters" : Str), v1) :: (if ("kept" : Str) = "root_hook" then _ else (("kept" : Str), v2) :: (if ("root_hook" : Str) = "root_hook" then (("root_hook" : Str), u) :: [(("rows" : Str), v4), (("order" : Str), v5), (("changes" : Str), v6), (("made_by" : Str), v7), (("text" : Str), v8)] else _)))) = _
  rw [if_neg (by decide +kernel), if_neg (by decide +kernel), if_neg (by decide +kernel), if_pos rfl]
  rfl
theorem fL_put_rows {v0 v1 v2 v3 v4 v5 v6 v7 v8 u : V} : putF "rows" u (fL v0 v1 v2 v3 v4 v5 v6 v7 v8) = fL v0 v1 v2 v3 u v5 v6 v7 v8 := by
  show (if ("name" : Str) = "rows" then _ else (("name" : Str), v0) :: (if ("root_parameters" : Str) = "rows" then _ else (("root_parameters" : Str), v1) :: (if ("kept" : Str) = "rows" then _ else (("kept" : Str), v2) :: (if ("root_hook" : Str) = "rows" then _ else (("root_hook" : Str), v3) :: (if ("rows" : Str) = "rows" then (("rows" : Str), u) :: [(("order" : Str), v5), (("changes" : Str), v6), (("made_by" : Str), v7), (("text" : Str), v8)] else _))))) = _
  rw [if_neg (by decide +kernel), if_neg (by decide +kernel), if_neg (by decide +kernel), if_neg (by decide +kernel), if_pos rfl]
  rfl
theorem fL_put_order {v0 v1 v2 v3 v4 v5 v6 v7 v8 u : V} : putF "order" u (fL v0 v1 v2 v3 v4 v5 v6 v7 v8) = fL v0 v1 v2 v3 v4 u v6 v7 v8 := by
  show (if ("name" : Str) = "order" then _ else (("name" : Str), v0) :: (if ("root_parameters" : Str) = "order" then _ else (("root_parameters" : Str), v1) :: (if ("kept" : Str) = "order" then _ else (("kept" : Str), v2) :: (if ("root_hook" : Str) = "order" then _ else (("root_hook" : Str), v3) :: (if ("rows" : Str) = "order" then _ else (("rows" : Str), v4) :: (if ("order" : Str) = "order" then (("order" : Str), u) :: [(("changes" : Str), v6), (("made_by" : Str), v7), (("text" : Str), v8)] else _)))))) = _
  rw [if_neg (by decide +kernel), if_neg (by decide +kernel), if_neg (by decide +kernel), if_neg (by decide +kernel), if_neg (by decide +kernel), if_pos rfl]
  rfl
theorem fL_put_changes {v0 v1 v2 v3 v4 v5 v6 v7 v8 u : V} : putF "changes" u (fL v0 v1 v2 v3 v4 v5 v6 v7 v8) = fL v0 v1 v2 v3 v4 v5 u v7 v8 := by
  show (if ("name" : Str) = "changes" then _ else (("name" : Str), v0) :: (if ("root_parameters" : Str) = "changes" then _ else (("root_parameters" : Str), v1) :: (if ("kept" : Str) = "changes" then _ else (("kept" : Str), v2) :: (if ("root_hook" : Str) = "changes" then _ else (("root_hook" : Str), v3) :: (if ("rows" : Str) = "changes" then _ else (("rows" : Str), v4) :: (if ("order" : Str) = "changes" then _ else (("order" : Str), v5) :: (if ("changes" : Str) = "changes" then (("changes" : Str), u) :: [(("made_by" : Str), v7), (("text" : Str), v8)] else _))))))) = _
  rw [if_neg (by decide +kernel), if_neg (by decide +kernel), if_neg (by decide +kernel), if_neg (by decide +kernel), if_neg (by decide +kernel), if_neg (by decide +kernel), if_pos rfl]
  rfl
theorem fL_put_made_by {v0 v1 v2 v3 v4 v5 v6 v7 v8 u : V} : putF "made_by" u (fL v0 v1 v2 v3 v4 v5 v6 v7 v8) = fL v0 v1 v2 v3 v4 v5 v6 u v8 := by
  show (if ("name" : Str) = "made_by" then _ else (("name" : Str), v0) :: (if ("root_parameters" : Str) = "made_by" then _ else (("root_parameters" : Str), v1) :: (if ("kept" : Str) = "made_by" then _ else (("kept" : Str), v2) :: (if ("root_hook" : Str) = "made_by" then _ else (("root_hook" : Str), v3) :: (if ("rows" : Str) = "made_by" then _ else (("rows" : Str), v4) :: (if ("order" : Str) = "made_by" then _ else (("order" : Str), v5) :: (if ("changes" : Str) = "made_by" then _ else (("changes" : Str), v6) :: (if ("made_by" : Str) = "made_by" then (("made_by" : Str), u) :: [(("text" : Str), v8)] else _)))))))) = _
  rw [if_neg (by decide +kernel), if_neg (by decide +kernel), if_neg (by decide +kernel), if_neg (by decide +kernel), if_neg (by decide +kernel), if_neg (by decide +kernel), if_neg (by decide +kernel), if_pos rfl]
  rfl
theorem fL_put_text {v0 v1 v2 v3 v4 v5 v6 v7 v8 u : V} : putF "text" u (fL v0 v1 v2 v3 v4 v5 v6 v7 v8) = fL v0 v1 v2 v3 v4 v5 v6 v7 u := by
  show (if ("name" : Str) = "text" then _ else (("name" : Str), v0) :: (if ("root_parameters" : Str) = "text" then _ else (("root_parameters" : Str), v1) :: (if ("kept" : Str) = "text" then _ else (("kept" : Str), v2) :: (if ("root_hook" : Str) = "text" then _ else (("root_hook" : Str), v3) :: (if ("rows" : Str) = "text" then _ else (("rows" : Str), v4) :: (if ("order" : Str) = "text" then _ else (("order" : Str), v5) :: (if ("changes" : Str) = "text" then _ else (("changes" : Str), v6) :: (if ("made_by" : Str) = "text" then _ else (("made_by" : Str), v7) :: (if ("text" : Str) = "text" then (("text" : Str), u) :: [] else _))))))))) = _
  rw [if_neg (by decide +kernel), if_neg (by decide +kernel), if_neg (by decide +kernel), if_neg (by decide +kernel), if_neg (by decide +kernel), if_neg (by decide +kernel), if_neg (by decide +kernel), if_neg (by decide +kernel), if_pos rfl]
  rfl
theorem fL_no {m : Str} {v0 v1 v2 v3 v4 v5 v6 v7 v8 : V} (h0 : (m == ("name" : Str)) = false) (h1 : (m == ("root_parameters" : Str)) = false) (h2 : (m == ("kept" : Str)) = false) (h3 : (m == ("root_hook" : Str)) = false) (h4 : (m == ("rows" : Str)) = false) (h5 : (m == ("order" : Str)) = false) (h6 : (m == ("changes" : Str)) = false) (h7 : (m == ("made_by" : Str)) = false) (h8 : (m == ("text" : Str)) = false) : (fL v0 v1 v2 v3 v4 v5 v6 v7 v8).lookup m = none := by
  unfold fL
  rw [List.lookup_cons, h0, List.lookup_cons, h1, List.lookup_cons, h2, List.lookup_cons, h3, List.lookup_cons, h4, List.lookup_cons, h5, List.lookup_cons, h6, List.lookup_cons, h7, List.lookup_cons, h8]
  rfl
theorem fL_new0 {v0 : V} : putF "name" v0 [] = [(("name" : Str), v0)] := by
  show putF "name" v0 [] = _
  rfl
theorem fL_new1 {v0 v1 : V} : putF "root_parameters" v1 [(("name" : Str), v0)] = [(("name" : Str), v0), (("root_parameters" : Str), v1)] := by
  show (if ("name" : Str) = "root_parameters" then _ else (("name" : Str), v0) :: putF "root_parameters" v1 []) = _
  rw [if_neg (by decide +kernel)]
  rfl
theorem fL_new2 {v0 v1 v2 : V} : putF "kept" v2 [(("name" : Str), v0), (("root_parameters" : Str), v1)] = [(("name" : Str), v0), (("root_parameters" : Str), v1), (("kept" : Str), v2)] := by
  show (if ("name" : Str) = "kept" then _ else (("name" : Str), v0) :: (if ("root_parameters" : Str) = "kept" then _ else (("root_parameters" : Str), v1) :: putF "kept" v2 [])) = _
  rw [if_neg (by decide +kernel), if_neg (by decide +kernel)]
  rfl
theorem fL_new3 {v0 v1 v2 v3 : V} : putF "root_hook" v3 [(("name" : Str), v0), (("root_parameters" : Str), v1), (("kept" : Str), v2)] = [(("name" : Str), v0), (("root_parameters" : Str), v1), (("kept" : Str), v2), (("root_hook" : Str), v3)] := by
  show (if ("name" : Str) = "root_hook" then _ else (("name" : Str), v0) :: (if ("root_parameters" : Str) = "root_hook" then _ else (("root_parameters" : Str), v1) :: (if ("kept" : Str) = "root_hook" then _ else (("kept" : Str), v2) :: putF "root_hook" v3 []))) = _
  rw [if_neg (by decide +kernel), if_neg (by decide +kernel), if_neg (by decide +kernel)]
  rfl
theorem fL_new4 {v0 v1 v2 v3 v4 : V} : putF "rows" v4 [(("name" : Str), v0), (("root_parameters" : Str), v1), (("kept" : Str), v2), (("root_hook" : Str), v3)] = [(("name" : Str), v0), (("root_parameters" : Str), v1), (("kept" : Str), v2), (("root_hook" : Str), v3), (("rows" : Str), v4)] := by
  show (if ("name" : Str) = "rows" then _ else (("name" : Str), v0) :: (if ("root_parameters" : Str) = "rows" then _ else (("root_parameters" : Str), v1) :: (if ("kept" : Str) = "rows" then _ else (("kept" : Str), v2) :: (if ("root_hook" : Str) = "rows" then _ else (("root_hook" : Str), v3) :: putF "rows" v4 [])))) = _
  rw [if_neg (by decide +kernel), if_neg (by decide +kernel), if_neg (by decide +kernel), if_neg (by decide +kernel)]
  rfl
theorem fL_new5 {v0 v1 v2 v3 v4 v5 : V} : putF "order" v5 [(("name" : Str), v0), (("root_parameters" : Str), v1), (("kept" : Str), v2), (("root_hook" : Str), v3), (("rows" : Str), v4)] = [(("name" : Str), v0), (("root_parameters" : Str), v1), (("kept" : Str), v2), (("root_hook" : Str), v3), (("rows" : Str), v4), (("order" : Str), v5)] := by
  show (if ("name" : Str) = "order" then _ else (("name" : Str), v0) :: (if ("root_parameters" : Str) = "order" then _ else (("root_parameters" : Str), v1) :: (if ("kept" : Str) = "order" then _ else (("kept" : Str), v2) :: (if ("root_hook" : Str) = "order" then _ else (("root_hook" : Str), v3) :: (if ("rows" : Str) = "order" then _ else (("rows" : Str), v4) :: putF "order" v5 []))))) = _
  rw [if_neg (by decide +kernel), if_neg (by decide +kernel), if_neg (by decide +kernel), if_neg (by decide +kernel), if_neg (by decide +kernel)]
  rfl
theorem fL_new6 {v0 v1 v2 v3 v4 v5 v6 : V} : putF "changes" v6 [(("name" : Str), v0), (("root_parameters" : Str), v1), (("kept" : Str), v2), (("root_hook" : Str), v3), (("rows" : Str), v4), (("order" : Str), v5)] = [(("name" : Str), v0), (("root_parameters" : Str), v1), (("kept" : Str), v2), (("root_hook" : Str), v3), (("rows" : Str), v4), (("order" : Str), v5), (("changes" : Str), v6)] := by
  show (if ("name" : Str) = "changes" then _ else (("name" : Str), v0) :: (if ("root_parameters" : Str) = "changes" then _ else (("root_parameters" : Str), v1) :: (if ("kept" : Str) = "changes" then _ else (("kept" : Str), v2) :: (if ("root_hook" : Str) = "changes" then _ else (("root_hook" : Str), v3) :: (if ("rows" : Str) = "changes" then _ else (("rows" : Str), v4) :: (if ("order" : Str) = "changes" then _ else (("order" : Str), v5) :: putF "changes" v6 [])))))) = _
  rw [if_neg (by decide +kernel), if_neg (by decide +kernel), if_neg (by decide +kernel), if_neg (by decide +kernel), if_neg (by decide +kernel), if_neg (by decide +kernel)]
  rfl
theorem fL_new7 {v0 v1 v2 v3 v4 v5 v6 v7 : V} : putF "made_by" v7 [(("name" : Str), v0), (("root_parameters" : Str), v1), (("kept" : Str), v2), (("root_hook" : Str), v3), (("rows" : Str), v4), (("order" : Str), v5), (("changes" : Str), v6)] = [(("name" : Str), v0), (("root_parameters" : Str), v1), (("kept" : Str), v2), (("root_hook" : Str), v3), (("rows" : Str), v4), (("order" : Str), v5), (("changes" : Str), v6), (("made_by" : Str), v7)] := by
  show (if ("name" : Str) = "made_by" then _ else (("name" : Str), v0) :: (if ("root_parameters" : Str) = "made_by" then _ else (("root_parameters" : Str), v1) :: (if ("kept" : Str) = "made_by" then _ else (("kept" : Str), v2) :: (if ("root_hook" : Str) = "made_by" then _ else (("root_hook" : Str), v3) :: (if ("rows" : Str) = "made_by" then _ else (("rows" : Str), v4) :: (if ("order" : Str) = "made_by" then _ else (("order" : Str), v5) :: (if ("changes" : Str) = "made_by" then _ else (("changes" : Str), v6) :: putF "made_by" v7 []))))))) = _
  rw [if_neg (by decide +kernel), if_neg (by decide +kernel), if_neg (by decide +kernel), if_neg (by decide +kernel), if_neg (by decide +kernel), if_neg (by decide +kernel), if_neg (by decide +kernel)]
  rfl
theorem fL_new8 {v0 v1 v2 v3 v4 v5 v6 v7 v8 : V} : putF "text" v8 [(("name" : Str), v0), (("root_parameters" : Str), v1), (("kept" : Str), v2), (("root_hook" : Str), v3), (("rows" : Str), v4), (("order" : Str), v5), (("changes" : Str), v6), (("made_by" : Str), v7)] = [(("name" : Str), v0), (("root_parameters" : Str), v1), (("kept" : Str), v2), (("root_hook" : Str), v3), (("rows" : Str), v4), (("order" : Str), v5), (("changes" : Str), v6), (("made_by" : Str), v7), (("text" : Str), v8)] := by
  show (if ("name" : Str) = "text" then _ else (("name" : Str), v0) :: (if ("root_parameters" : Str) = "text" then _ else (("root_parameters" : Str), v1) :: (if ("kept" : Str) = "text" then _ else (("kept" : Str), v2) :: (if ("root_hook" : Str) = "text" then _ else (("root_hook" : Str), v3) :: (if ("rows" : Str) = "text" then _ else (("rows" : Str), v4) :: (if ("order" : Str) = "text" then _ else (("order" : Str), v5) :: (if ("changes" : Str) = "text" then _ else (("changes" : Str), v6) :: (if ("made_by" : Str) = "text" then _ else (("made_by" : Str), v7) :: putF "text" v8 [])))))))) = _
  rw [if_neg (by decide +kernel), if_neg (by decide +kernel), if_neg (by decide +kernel), if_neg (by decide +kernel), if_neg (by decide +kernel), if_neg (by decide +kernel), if_neg (by decide +kernel), if_neg (by decide +kernel)]
  rfl
section
variable {K : PySem.W.Frag} {mg : Str → Option Value} {a : Ad} {H : Hp} {Q : VK} {p dx : Addr} {v0 v1 v2 v3 v4 v5 v6 v7 v8 : V} {σ : L2.St}
theorem fldL_name (T : Txt K mg a) (e : H p = some (.ins a.C_Library dx (fL v0 v1 v2 v3 v4 v5 v6 v7 v8))) (k : Q v0 H) : FldK K "name" (.ref p) H Q := rd_fldK e T.cl_Library T.no_Library_name fL_name k
theorem fldL_root_parameters (T : Txt K mg a) (e : H p = some (.ins a.C_Library dx (fL v0 v1 v2 v3 v4 v5 v6 v7 v8))) (k : Q v1 H) : FldK K "root_parameters" (.ref p) H Q := rd_fldK e T.cl_Library T.no_Library_root_parameters fL_root_parameters k
theorem fldL_kept (T : Txt K mg a) (e : H p = some (.ins a.C_Library dx (fL v0 v1 v2 v3 v4 v5 v6 v7 v8))) (k : Q v2 H) : FldK K "kept" (.ref p) H Q := rd_fldK e T.cl_Library T.no_Library_kept fL_kept k
theorem fldL_root_hook (T : Txt K mg a) (e : H p = some (.ins a.C_Library dx (fL v0 v1 v2 v3 v4 v5 v6 v7 v8))) (k : Q v3 H) : FldK K "root_hook" (.ref p) H Q := rd_fldK e T.cl_Library T.no_Library_root_hook fL_root_hook k
theorem fldL_rows (T : Txt K mg a) (e : H p = some (.ins a.C_Library dx (fL v0 v1 v2 v3 v4 v5 v6 v7 v8))) (k : Q v4 H) : FldK K "rows" (.ref p) H Q := rd_fldK e T.cl_Library T.no_Library_rows fL_rows k
theorem fldL_order (T : Txt K mg a) (e : H p = some (.ins a.C_Library dx (fL v0 v1 v2 v3 v4 v5 v6 v7 v8))) (k : Q v5 H) : FldK K "order" (.ref p) H Q := rd_fldK e T.cl_Library T.no_Library_order fL_order k
theorem fldL_changes (T : Txt K mg a) (e : H p = some (.ins a.C_Library dx (fL v0 v1 v2 v3 v4 v5 v6 v7 v8))) (k : Q v6 H) : FldK K "changes" (.ref p) H Q := rd_fldK e T.cl_Library T.no_Library_changes fL_changes k
theorem fldL_made_by (T : Txt K mg a) (e : H p = some (.ins a.C_Library dx (fL v0 v1 v2 v3 v4 v5 v6 v7 v8))) (k : Q v7 H) : FldK K "made_by" (.ref p) H Q := rd_fldK e T.cl_Library T.no_Library_made_by fL_made_by k
theorem fldL_text (T : Txt K mg a) (e : H p = some (.ins a.C_Library dx (fL v0 v1 v2 v3 v4 v5 v6 v7 v8))) (k : Q v8 H) : FldK K "text" (.ref p) H Q := rd_fldK e T.cl_Library T.no_Library_text fL_text k
theorem methL {m : Str} {sp : Sp} {E : XK} {tt : TA} (e : H p = some (.ins a.C_Library dx (fL v0 v1 v2 v3 v4 v5 v6 v7 v8))) (h0 : (m == ("name" : Str)) = false) (h1 : (m == ("root_parameters" : Str)) = false) (h2 : (m == ("kept" : Str)) = false) (h3 : (m == ("root_hook" : Str)) = false) (h4 : (m == ("rows" : Str)) = false) (h5 : (m == ("order" : Str)) = false) (h6 : (m == ("changes" : Str)) = false) (h7 : (m == ("made_by" : Str)) = false) (h8 : (m == ("text" : Str)) = false) (q : tt σ H fun vs H2 => sp (.ref p :: (vs ++ [])) H2 Q E) : MethK a.C_Library m sp E tt σ (.ref p) H Q := rd_methK e (fL_no h0 h1 h2 h3 h4 h5 h6 h7 h8) q
end

/-- one's own object, made behind H0 -/
structure OO (F0 H0 F H : Hp) (p : Addr) (o : HO) : Prop where
  gr : Grow [] F0 H0 F H
  np : H0 p = none
  hd : Hold F H p o
section
variable {F0 H0 F H F' H' : Hp} {p : Addr} {o u : HO}
theorem OO.put (h : OO F0 H0 F H p o) : OO F0 H0 F (upd H p u) p u := ⟨h.gr.mut h.hd.f (.inr h.np), h.np, h.hd.put⟩
theorem OO.go (h : OO F0 H0 F H p o) (g : Grow [] F H F' H') : OO F0 H0 F' H' p o := ⟨h.gr.trans g, h.np, h.hd.go0 g⟩
theorem OO.frz (h : OO F0 H0 F H p o) : Grow [] F0 H0 (upd F p o) H := h.gr.frz h.hd.h h.hd.f h.np
theorem OO.fh (h : OO F0 H0 F H p o) : Same F H := h.gr.fh
end
def KvOk (K : PySem.W.Frag) (F : Hp) (kvs : List (Key × V)) (rows : List Row3) (f : Row3 → PyData) : Prop := kvs.map (·.1) = rows.map (fun r => (Sum.inr (tx r.sign) : Key)) ∧ DpAll K F (kvs.map (·.2)) (rows.map f)
theorem KvOk.mono {K : PySem.W.Frag} {F F' : Hp} {kvs : List (Key × V)} {rows : List Row3} {f : Row3 → PyData} (h : KvOk K F kvs rows f) (s : Same F F') : KvOk K F' kvs rows f := ⟨h.1, h.2.mono s⟩
theorem KvOk.len {K : PySem.W.Frag} {F : Hp} {kvs : List (Key × V)} {rows : List Row3} {f : Row3 → PyData} (h : KvOk K F kvs rows f) : kvs.length = rows.length := by
  have := congrArg List.length h.1
  simpa using this
theorem KvOk.put {K : PySem.W.Frag} {F : Hp} {kvs : List (Key × V)} {rows : List Row3} {f : Row3 → PyData} {r : Row3} {v : V} (h : KvOk K F kvs rows f) (hn : r.sign ∉ rows.map (·.sign)) (hv : Dp K F v (f r)) : KvOk K F (putK kvs (.inr (tx r.sign)) v) (rows ++ [r]) f := by
  have e : putK kvs (.inr (tx r.sign)) v = kvs ++ [(.inr (tx r.sign), v)] := by
    unfold putK
    refine if_neg ?_
    intro z
    obtain ⟨kv, hkv, e⟩ := List.any_eq_true.mp z
    have e := of_decide_eq_true e
    have hm : kv.1 ∈ rows.map (fun r => (Sum.inr (tx r.sign) : Key)) := by rw [← h.1]; exact List.mem_map_of_mem hkv
    obtain ⟨r', hr', e'⟩ := List.mem_map.mp hm
    rw [e] at e'
    have := tx_inj.mp (Sum.inr.inj e')
    exact hn (List.mem_map.mpr ⟨r', hr', this⟩)
  rw [e]
  refine ⟨?_, ?_⟩
  · rw [List.map_append, List.map_append, h.1]
    rfl
  · rw [List.map_append, List.map_append]
    exact h.2.snoc hv
def Draft.text (d : Draft) : Wd := TL.joinL [10] d.lines
def chD (r : Row3) : PyData := .tuple (r.changed.map wdD)
def mkD (r : Row3) : PyData := wdD r.maker
/-- a library stands at p -/
structure LibAt (a : Ad) (K : PySem.W.Frag) (F : Hp) (p : Addr) (d : Draft) (dx np kp rp op cp mp : Addr) : Prop where
  me : F p = some (.ins a.C_Library dx (fL (.str (tx d.name)) (.ref np) (.ref kp) (hookV d.hook) (.ref rp) (.ref op) (.ref cp) (.ref mp) (.str (tx d.text))))
  pa : SqT K F np (d.parts.map wd)
  ke : ∃ ks, SqT K F kp ks ∧ DpAll K F ks (d.keeping.map keepD)
  ro : ∃ rs, F rp = some (.lst rs) ∧ DpAll K F rs (d.rows.map rowD)
  ord : F op = some (.lst ((d.rows.map (·.sign)).map wd))
  ch : ∃ kvs, F cp = some (.dK kvs) ∧ KvOk K F kvs d.rows chD
  mb : ∃ kvs, F mp = some (.dK kvs) ∧ KvOk K F kvs d.rows mkD
  wf : d.Wf
def IsLib (a : Ad) (K : PySem.W.Frag) (F : Hp) (p : Addr) (d : Draft) : Prop := ∃ dx np kp rp op cp mp, LibAt a K F p d dx np kp rp op cp mp
theorem IsLib.mono {a : Ad} {K : PySem.W.Frag} {F F' : Hp} {p : Addr} {d : Draft} (h : IsLib a K F p d) (s : Same F F') : IsLib a K F' p d := by
  obtain ⟨dx, np, kp, rp, op, cp, mp, h⟩ := h
  obtain ⟨ks, h1, h2⟩ := h.ke
  obtain ⟨rs, h3, h4⟩ := h.ro
  obtain ⟨ch, h5, h6⟩ := h.ch
  obtain ⟨mk, h7, h8⟩ := h.mb
  exact ⟨dx, np, kp, rp, op, cp, mp, s _ _ h.me, sqT_same s h.pa, ⟨ks, sqT_same s h1, h2.mono s⟩, ⟨rs, s _ _ h3, h4.mono s⟩, s _ _ h.ord, ⟨ch, s _ _ h5, h6.mono s⟩, ⟨mk, s _ _ h7, h8.mono s⟩, h.wf⟩
theorem row_line_len {r : Row3} (h : r.Wf) : r.line.length ≤ 100 := by
  have h1 := h.s.2
  have h2 := h.m.2
  have h3 := spaced_le h.l h.c
  unfold Row3.line wMake wBy wChanges
  split
  · simp; omega
  · split
    · simp; omega
    · simp; omega
theorem sum_le {ws : List Wd} {n : Nat} (h : ∀ w ∈ ws, w.length ≤ n) : (ws.map (·.length)).sum ≤ n * ws.length := by
  induction ws with
  | nil => simp
  | cons x xs ih =>
    have h1 := h x (List.mem_cons_self ..)
    have h2 := ih fun w hw => h w (List.mem_cons_of_mem _ hw)
    rw [List.map_cons, List.sum_cons, List.length_cons, Nat.mul_add, Nat.mul_one]
    omega
theorem heads_len1 {d : Draft} (h : d.Wf) : ∀ w ∈ d.heads, w.length ≤ 100 := by
  intro w hw
  have h0 := h.nm.2
  unfold Draft.heads at hw
  rcases List.mem_append.mp hw with hw | hw
  · rcases List.mem_append.mp hw with hw | hw
    · rcases List.mem_append.mp hw with hw | hw
      · rw [List.mem_singleton.mp hw]
        unfold wLibrary
        simp; omega
      · obtain ⟨q, hq, rfl⟩ := List.mem_map.mp hw
        have := (h.pw q hq).2
        unfold wNeeds
        simp; omega
    · obtain ⟨q, hq, rfl⟩ := List.mem_map.mp hw
      have := (h.kw q hq).1.2
      have := (h.kw q hq).2.2
      unfold wKeeps wOf
      simp; omega
  · cases e : d.hook with
    | none => rw [e] at hw; cases hw
    | some x =>
      rw [e] at hw
      rw [List.mem_singleton.mp hw]
      have := (h.hk x e).2
      unfold wHook
      simp; omega
theorem lines_len {d : Draft} (h : d.Wf) : (d.lines.map (·.length)).sum + d.lines.length * 1 ≤ 2000 := by
  have h1 : ∀ w ∈ d.lines, w.length ≤ 100 := by
    intro w hw
    rw [Draft.lines_eq] at hw
    rcases List.mem_append.mp hw with hw | hw
    · exact heads_len1 h w hw
    · obtain ⟨r, hr, rfl⟩ := List.mem_map.mp hw
      exact row_line_len (h.rw r hr)
  have h2 := sum_le h1
  have h3 : d.lines.length ≤ 13 := by
    rw [Draft.lines_eq]
    have := d.heads_len h
    have := h.rl
    simp; omega
  omega
section
variable {K : PySem.W.Frag} {F H : Hp} {Q : VK} {r : Addr} {xs : List V}
theorem new_tup2 (fh : Same F H) (h : SqL K F r xs ∨ SqT K F r xs) (k : ∀ F' H' p, Grow [] F H F' H' → SqT K F' p xs → Q (.ref p) H') : rTupOf K [.ref r] H Q := by
  rcases h with h | h
  · exact rd_tupL (fh.seq h) fun l hl => k (upd F l (.tup xs)) _ l ((Grow.refl fh).new hl) (sqT_of upd_same)
  · exact rd_tupT (sqT_same fh h) (k F H r (Grow.refl fh) h)
end
theorem ixT_mono {K : PySem.W.Frag} {n : Nat} {z : Int} : ∀ (P1 P2 : V → Hp → Prop) (σ : L2.St) (H : Hp), (∀ v H', P1 v H' → P2 v H') → tOp (rIxT K) (tVar n) (tC (.int z)) σ H P1 → tOp (rIxT K) (tVar n) (tC (.int z)) σ H P2 :=
  fun P1 P2 σ H h ⟨v, e, p, xs, i, y, e1, e2, hs, ha, q⟩ => ⟨v, e, p, xs, i, y, e1, e2, hs, ha, h _ _ q⟩
/-- {row[0]: .. for row in rows} -/
theorem kvs_row {K : PySem.W.Frag} {σ : L2.St} {F H : Hp} {g : TG} {tt : TT} {tk tv : TE} {vs : List Nat} {Q : VK} {a : Addr} {rs : List V} {rows : List Row3} (f : Row3 → PyData) (fh : Same F H) (hx : SqL K F a rs) (hd : DpAll K F rs (rows.map rowD)) (hl : rows.length ≤ 6) (hn : (rows.map (·.sign)).Nodup)
    (turn : ∀ (t c : Addr) (r : Row3) F1 H1 (Kept : V → V → Hp → Prop), r ∈ rows → Same F1 H1 → SqT K F1 t [.str (tx r.sign), .ref c, .str (tx r.maker)] → SqT K F1 c (r.changed.map wd) → (∀ z, Dp K F1 z (f r) → Kept (.str (tx r.sign)) z H1) →
      g (.ref t) (wipe σ vs) H1 fun σ2 H2 => wipe σ2 vs = wipe σ vs ∧ tt σ2 H2 fun b H3 => b = true ∧ tk σ2 H3 fun y H4 => tv σ2 H4 fun z H5 => Kept y z H5)
    (mono : ∀ (P1 P2 : Bool → Hp → Prop) σ H, (∀ b H', P1 b H' → P2 b H') → tt σ H P1 → tt σ H P2) (gm : ∀ (P1 P2 : L2.St → Hp → Prop) x σ H, (∀ s H', P1 s H' → P2 s H') → g x σ H P1 → g x σ H P2)
    (km : ∀ (P1 P2 : V → Hp → Prop) σ H, (∀ v H', P1 v H' → P2 v H') → tk σ H P1 → tk σ H P2) (vm : ∀ (P1 P2 : V → Hp → Prop) σ H, (∀ v H', P1 v H' → P2 v H') → tv σ H P1 → tv σ H P2)
    (q : ∀ D F' H' kvs, Grow [] F H F' H' → H D = none → F' D = some (.dK kvs) → KvOk K F' kvs rows f → Q (.ref D) H') : DcK (Itl K a) g tt tk tv vs σ H Q := by
  have hrl : rs.length = rows.length := by simpa using hd.length
  refine dcPL (fun i F' kvs => KvOk K F' kvs (rows.take i) f) fh hx (by omega) ⟨rfl, .nil⟩ (fun i F' kvs h => ?_) (fun i F1 F2 kvs s h => h.mono s) (fun i x F1 H1 kvs hxi g1 ha Kept hk => ?_) (fun F' H' D kvs g' nD hD ha => ?_) mono gm km vm
  · rw [h.len, List.length_take]
    omega
  · obtain ⟨dd, z1, z2⟩ := hd.get hxi
    rw [List.getElem?_map] at z1
    cases hr : rows[i]? with
    | none => rw [hr] at z1; cases z1
    | some r =>
      rw [hr] at z1
      cases z1
      obtain ⟨t, c, rfl, ht, hc⟩ := tup3 z2
      refine turn t c r F1 H1 Kept (List.mem_of_getElem? hr) g1.fh (sqT_same g1.ff ht) (sqT_same g1.ff hc) fun z hz => ?_
      refine hk F1 H1 (.inr (tx r.sign)) z (Grow.refl g1.fh) ?_
      obtain ⟨i1, i2⟩ := List.getElem?_eq_some_iff.mp hr
      rw [List.take_succ_eq_append_getElem i1, i2]
      refine ha.put ?_ hz
      intro hm
      rw [← i2] at hm
      have hnd := hn
      have e : (rows.map (·.sign)) = ((rows.take i).map (·.sign)) ++ ((rows.drop i).map (·.sign)) := by rw [← List.map_append, List.take_append_drop]
      rw [e] at hnd
      have := (List.nodup_append.mp hnd).2.2 _ hm (rows[i].sign) (List.mem_map_of_mem (by rw [List.drop_eq_getElem_cons i1]; exact List.mem_cons_self ..))
      exact this rfl
  · rw [hrl, List.take_length] at ha
    have g2 := g'.frz (p := D) hD.h hD.f nD
    exact q D _ H' kvs g2 nD upd_same (ha.mono (same_new hD.f))
local macro_rules | `(tactic| array_mem_dec) => `(tactic| with_reducible first
  | assumption | exact upd_same
  | (apply upd_new; assumption; array_mem_dec)
  | (apply upd_old; tlg_ne; array_mem_dec)
  | (apply same_at; assumption; array_mem_dec))
local macro_rules | `(tactic| tlg_ne) => `(tactic| with_reducible first
  | assumption | (apply Ne.symm; assumption)
  | (apply ne_new; assumption; array_mem_dec) | (apply ne_new'; assumption; array_mem_dec)
  | (apply ne_of; assumption; assumption; (with_unfolding_all (intro z; cases z; done))))
local macro_rules | `(tactic| decreasing_trivial_pre_omega) => `(tactic| with_reducible first
  | assumption | (apply sqL_of; array_mem_dec) | (apply sqT_of; array_mem_dec)
  | (apply Same.seq; assumption; decreasing_trivial_pre_omega) | (apply sqT_same; assumption; decreasing_trivial_pre_omega)
  | (apply sqL_new; assumption; decreasing_trivial_pre_omega) | (apply sqL_upd; tlg_ne; decreasing_trivial_pre_omega))
local macro_rules | `(tactic| kpt_turns) => `(tactic| with_reducible first
  | assumption | exact Same.refl _ | (apply same_ext; kpt_turns; assumption) | (apply same_mut; kpt_turns; keq_hits) | (apply same_step; assumption; kpt_turns))
local macro_rules | `(tactic| keq_hits) => `(tactic| with_reducible first | assumption | (apply same_none; assumption; keq_hits))
local macro_rules | `(tactic| sizeOf_list_dec) => `(tactic| first | (with_reducible assumption) | (with_reducible_and_instances omega) | (with_unfolding_all decide))
local macro_rules | `(tactic| array_get_dec) => `(tactic| first | (with_reducible assumption) | (apply sz_of; (with_unfolding_all simp); done) | (apply sz_of; omega) | (apply sz_lt; (with_unfolding_all simp); done) | (apply sz_lt; omega))
local macro_rules | `(tactic| keq_rows) => `(tactic| with_reducible first
  | apply rd_asgN | apply rd_seq | apply rd_parA | apply rd_par3A | apply rd_par2 | apply rd_par3 | apply rd_m1 | apply rd_isStr | apply rd_cval | apply rd_asg | apply rd_gname | apply rd_op | (show tVar _ _ _ _; refine rd_var (by with_unfolding_all rfl) ?_) | apply rd_c | apply rd_I0
  | apply rd_cons | apply rd_nil | apply rd_cb | apply rd_test | apply rd_bl | apply rd_fld | apply rd_drop | apply rd_ret | apply rd_retN | apply rd_next
  | apply rd_ifS | apply rd_un | apply rd_B | apply rd_and | apply rd_or | apply rd_not | apply rd_andV | apply rd_orV | apply rd_notV | apply rd_if
  | apply rd_int | apply rd_abs | apply rd_max | apply rd_min | apply rd_strS | apply rd_U
  | apply rd_eqTx | apply rd_neTx | apply rd_inTx | apply rd_notInTx | apply rd_fmt | (show FmtK (.str (tx _)) _ _; refine rd_fmtT (by omega) ?_) | apply rd_jsC | apply rd_jsN | (show JsK _ (tx _) _ (.str (tx _)) _ _; refine rd_JsK (by first | omega | (simp; done) | (simp; omega)) ?_) | (show rAddStr (.str (tx _)) (.str (tx _)) _ _; refine rd_addT (by first | omega | (simp; done) | (simp; omega)) ?_) | (show rLenStr [.str (tx _)] _ _; refine rd_lenTx (by omega) ?_)
  | (show rEq _ _ _ _; refine rd_eq (by with_unfolding_all rfl) ?_) | (show rNe _ _ _ _; refine rd_ne (by with_unfolding_all rfl) ?_) | apply rd_isNone | apply rd_notNone
  | (show rIxL _ _ _ _ _; refine rd_ixL (by decreasing_trivial_pre_omega) (by with_unfolding_all rfl) ?_) | (show rIxT _ _ _ _ _; refine rd_ixT (by decreasing_trivial_pre_omega) (by with_unfolding_all rfl) ?_)
  | (show rLenSeq _ _ _ _; refine rd_lenL (by decreasing_trivial_pre_omega) ?_) | (show rLenSeq _ _ _ _; refine rd_lenT (by decreasing_trivial_pre_omega) ?_)
  | (show rI _ _ _ _ _ _; refine rd_mod (by sizeOf_list_dec) ?_) | (show rI _ _ _ _ _ _; refine rd_div (by sizeOf_list_dec) (by sizeOf_list_dec) ?_) | (show rI _ _ _ _ _ _; refine rd_mulR (by sizeOf_list_dec) (by sizeOf_list_dec) ?_) | (show rI _ _ _ _ _ _; refine rd_mulL (by sizeOf_list_dec) (by sizeOf_list_dec) ?_) | (show rI _ _ _ _ _ _; refine rd_pow (by sizeOf_list_dec) ?_)
  | (show rSetL _ _ _ _ _; refine rd_setL (by array_mem_dec) (by with_unfolding_all rfl) ?_)
  | apply rd_inSign | apply rd_notInSign | apply rd_tupK | apply rd_lstK | apply rd_sl | apply rd_noPart | apply rd_part | apply rd_isInt
  | apply rd_gsub | apply rd_gcons | apply rd_gnil | apply rd_call | apply rd_meth | apply rd_make | apply rd_smeth | apply rd_isC | apply rd_smethK | apply rd_cmeth | apply rd_cmethK
  | apply rd_bm | apply rd_bm0 | (show BmK _ _ _ _ _ _ _ _; refine rd_bmL (by array_mem_dec) ?_) | (show Bm0K _ _ _ _ _ _; refine rd_bm0L (by array_mem_dec) ?_) | apply rd_sfld | apply rd_aug | apply rd_rAdd | apply rd_brk | apply rd_cont
  | apply rd_for | apply rd_iList | (show IList _ _ _ _; refine rd_IList (by decreasing_trivial_pre_omega) ?_) | apply rd_iTup | (show ITup _ _ _ _; refine rd_ITup (by decreasing_trivial_pre_omega) ?_) | apply rd_iEnum | (show IEnum _ _ _ _; refine rd_IEnum (by decreasing_trivial_pre_omega) ?_) | apply rd_iRng1 | (show IRng1 _ _ _; refine rd_IRng1 (by sizeOf_list_dec) (by sizeOf_list_dec) ?_)
  | (show rLenStr _ _ _; refine rd_lenS (by array_get_dec) ?_) | (show rAddStr _ _ _ _; refine rd_addS (by array_get_dec) ?_) | (show rSlS _ _ _ _ _; refine rd_slS (by array_get_dec) ?_) | apply rd_lc | apply rd_yes | (show gTup _ _ _ _ _ _ _; refine rd_gtup (by decreasing_trivial_pre_omega) (by with_unfolding_all rfl) ?_) | (show tMakeL _ _ _ _ _ _ _ _; refine rd_makeL (by with_unfolding_all rfl) ?_))
local macro_rules | `(tactic| kas_types) => `(tactic| with_reducible first | apply rd_isi_int_int | apply rd_isi_int_bool | apply rd_isi_int_str | apply rd_isi_int_list | apply rd_isi_int_tuple | apply rd_isi_bool_int | apply rd_isi_bool_bool | apply rd_isi_bool_str | apply rd_isi_bool_list | apply rd_isi_bool_tuple | apply rd_isi_str_int | apply rd_isi_str_bool | apply rd_isi_str_str | apply rd_isi_str_list | apply rd_isi_str_tuple | (show rIsi _ _ _ _; refine rd_isi_list_int (by array_mem_dec) ?_) | (show rIsi _ _ _ _; refine rd_isi_list_bool (by array_mem_dec) ?_) | (show rIsi _ _ _ _; refine rd_isi_list_str (by array_mem_dec) ?_) | (show rIsi _ _ _ _; refine rd_isi_list_list (by array_mem_dec) ?_) | (show rIsi _ _ _ _; refine rd_isi_list_tuple (by array_mem_dec) ?_) | (show rIsi _ _ _ _; refine rd_isi_tuple_int (by array_mem_dec) ?_) | (show rIsi _ _ _ _; refine rd_isi_tuple_bool (by array_mem_dec) ?_) | (show rIsi _ _ _ _; refine rd_isi_tuple_str (by array_mem_dec) ?_) | (show rIsi _ _ _ _; refine rd_isi_tuple_list (by array_mem_dec) ?_) | (show rIsi _ _ _ _; refine rd_isi_tuple_tuple (by array_mem_dec) ?_) | apply rd_isi_NoneType_int | apply rd_isi_NoneType_bool | apply rd_isi_NoneType_str | apply rd_isi_NoneType_list | apply rd_isi_NoneType_tuple)
local macro_rules | `(tactic| lcg_src) => `(tactic| repeat keq_rows)

local macro_rules | `(tactic| lcg_sub) => `(tactic| with_reducible first | apply rd_chain | apply rd_dc)
local macro_rules | `(tactic| lcg_off) => `(tactic| repeat (first | keq_rows | lcg_sub))
section
variable {P : Program} {w : World} {K : PySem.W.Frag} {mg : Str → Option Value} {base : Heap} {a : Ad}
theorem ok_BadLibrary_init (T : Txt K mg a) : FnOk P w K mg base CX0 1 a.f_BadLibrary_init a.fd_BadLibrary_init ["self", "at"]  (sp_err1 a.C_BadLibrary "at") := by
  refine T.F_BadLibrary_init.ok sc_BadLibrary_init (fun vs H Q E h => ?_) (fun cdv A outer s H vs Q E hr h => ?_)
  · obtain ⟨_, _, rfl, _⟩ := h
    rfl
  · obtain ⟨e, v, rfl, he, k⟩ := h
    refine ⟨_, ((pss_one (ps_ost (pv 0) (pv 1)))), ?_⟩
    try simp only [cxK]
    refine rd_ost ?_
    lcg_off
    exact ⟨e, _, rfl, T.ox_BadLibrary, T.no_BadLibrary_at, .inl ⟨he, fun dx h1 h2 => k dx h1 h2⟩⟩
def sp_Library_init (a : Ad) (K : PySem.W.Frag) : Sp := fun vs H Q _ => ∃ (F0 H0 F : Hp) (p dx : Addr) (d : Draft) (av kv rv : Addr) (ks rs : List V), vs = [.ref p, .str (tx d.name), .ref av, .ref kv, hookV d.hook, .ref rv] ∧ OO F0 H0 F H p (.ins a.C_Library dx []) ∧
  (SqL K F av (d.parts.map wd) ∨ SqT K F av (d.parts.map wd)) ∧ (SqL K F kv ks ∨ SqT K F kv ks) ∧ DpAll K F ks (d.keeping.map keepD) ∧ SqL K F rv rs ∧ DpAll K F rs (d.rows.map rowD) ∧ d.Wf ∧
  ∀ F' H', Grow [] F0 H0 F' H' → IsLib a K F' p d → Q .non H'
theorem ok_Library_init (T : Txt K mg a) : FnOk P w K mg base CX0 3 a.f_Library_init a.fd_Library_init ["self", "name", "root_parameters", "kept", "root_hook", "rows"]  (sp_Library_init a K) := by
  refine T.F_Library_init.ok sc_Library_init (fun vs H Q E h => ?_) (fun cdv A outer s H vs Q E hr h => ?_)
  · obtain ⟨_, _, _, _, _, _, _, _, _, _, _, rfl, _⟩ := h
    rfl
  · obtain ⟨F0, H0, F, p, dx, d, av, kv, rv, ks, rs, rfl, O, hav, hkv, hks, hrv, hrs, wf, k⟩ := h
    refine ⟨_, ((pss_cons (ps_fld (pv 0) (pv 1) rfl)
 (pss_cons (ps_fld (pv 0) (pe_callTy call_tupOf (by rfl) T.n_tuple (by decide +kernel) (pa_cons (pv 2) pa_nil)) rfl)
 (pss_cons (ps_fld (pv 0) (pe_callTy call_tupOf (by rfl) T.n_tuple (by decide +kernel) (pa_cons (pv 3) pa_nil)) rfl)
 (pss_cons (ps_fld (pv 0) (pv 4) rfl)
 (pss_cons (ps_fld (pv 0) (pe_callTy call_listOf (by rfl) T.n_list (by decide +kernel) (pa_cons (pv 5) pa_nil)) rfl)
 (pss_cons (ps_fld (pv 0) (pe_lc (own := [("row", 6)]) (g := gName 6) (tt := tYes) rfl sc_Library_init.nd (pi_list (pv 5)) (blkOk_by (own := [("row", 6)]) (N := ["self", "name", "root_parameters", "kept", "root_hook", "rows", "row"]) (sc := defScope s_Library_init) (by decide +kernel)) (fun _ _ _ _ _ => (pg_name (i := 6) sc_Library_init.nd rfl (Or.inl rfl))) (fun _ _ _ _ _ => pts_nil) (fun _ _ _ _ _ => (pe_ix (ix_tupK (K := K)) (pv 6) pe_int (fun _ _ => rfl)))) rfl)
 (pss_cons (ps_fld (pv 0) (pe_dc (own := [("row", 6)]) (g := gName 6) (tt := tYes) rfl sc_Library_init.nd (pi_list (pv 5)) (blkOk_by (own := [("row", 6)]) (N := ["self", "name", "root_parameters", "kept", "root_hook", "rows", "row"]) (sc := defScope s_Library_init) (by decide +kernel)) (fun _ _ _ _ _ => (pg_name (i := 6) sc_Library_init.nd rfl (Or.inl rfl))) (fun _ _ _ _ _ => pts_nil) (fun _ _ _ _ _ => (pe_ix (ix_tupK (K := K)) (pv 6) pe_int (fun _ _ => rfl))) (fun _ _ _ _ _ => (pe_ix (ix_tupK (K := K)) (pv 6) pe_int (fun _ _ => rfl)))) rfl)
 (pss_cons (ps_fld (pv 0) (pe_dc (own := [("row", 6)]) (g := gName 6) (tt := tYes) rfl sc_Library_init.nd (pi_list (pv 5)) (blkOk_by (own := [("row", 6)]) (N := ["self", "name", "root_parameters", "kept", "root_hook", "rows", "row"]) (sc := defScope s_Library_init) (by decide +kernel)) (fun _ _ _ _ _ => (pg_name (i := 6) sc_Library_init.nd rfl (Or.inl rfl))) (fun _ _ _ _ _ => pts_nil) (fun _ _ _ _ _ => (pe_ix (ix_tupK (K := K)) (pv 6) pe_int (fun _ _ => rfl))) (fun _ _ _ _ _ => (pe_ix (ix_tupK (K := K)) (pv 6) pe_int (fun _ _ => rfl)))) rfl)
 (pss_one (ps_fld (pv 0) (pe_joinR (K := K) pe_str (pe_meth0 (pv 0) T.cl_Library T.m_Library_text_lines (ok_Library_text_lines T) hr T.b_Library_text_lines .nil pass0)) rfl))))))))))), ?_⟩
    try simp only [cxK, show Str.ofString "\n" = tx [10] by decide +kernel]
    lcg_off
    refine rd_sfldK O.hd.h T.cl_Library T.no_Library_name (by show 0 < 1000; decide) ?_
    rw [fL_new0]
    have O1 := O.put (u := .ins a.C_Library dx [("name", .str (tx d.name))])
    lcg_off
    refine new_tup2 O1.fh hav fun F2 H2 np g2 hnp => ?_
    have O2 := O1.go g2
    lcg_off
    refine rd_sfldK O2.hd.h T.cl_Library T.no_Library_root_parameters (by show 1 < 1000; decide) ?_
    rw [fL_new1]
    have O3 := O2.put (u := .ins a.C_Library dx [("name", .str (tx d.name)), ("root_parameters", .ref np)])
    lcg_off
    refine new_tup2 O3.fh (hkv.imp (fun z => g2.ff.seq z) (fun z => sqT_same g2.ff z)) fun F4 H4 kp g4 hkp => ?_
    have O4 := O3.go g4
    lcg_off
    refine rd_sfldK O4.hd.h T.cl_Library T.no_Library_kept (by show 2 < 1000; decide) ?_
    rw [fL_new2]
    have O5 := O4.put (u := .ins a.C_Library dx [("name", .str (tx d.name)), ("root_parameters", .ref np), ("kept", .ref kp)])
    lcg_off
    refine rd_sfldK O5.hd.h T.cl_Library T.no_Library_root_hook (by show 3 < 1000; decide) ?_
    rw [fL_new3]
    have O6 := O5.put (u := .ins a.C_Library dx [("name", .str (tx d.name)), ("root_parameters", .ref np), ("kept", .ref kp), ("root_hook", hookV d.hook)])
    have s6 : Same F F4 := g2.ff.trans g4.ff
    lcg_off
    refine new_list O6.fh (.inl (s6.seq hrv)) fun F7 H7 rp g7 n7 e7 => ?_
    have O7 := O6.go g7
    have s7 : Same F F7 := s6.trans g7.ff
    lcg_off
    refine rd_sfldK O7.hd.h T.cl_Library T.no_Library_rows (by show 4 < 1000; decide) ?_
    rw [fL_new4]
    have O8 := O7.put (u := .ins a.C_Library dx [("name", .str (tx d.name)), ("root_parameters", .ref np), ("kept", .ref kp), ("root_hook", hookV d.hook), ("rows", .ref rp)])
    have hrv8 := O8.fh.seq (s7.seq hrv)
    have hrs8 : DpAll K _ rs (d.rows.map rowD) := (hrs.mono s7).mono O8.fh
    have hrl := wf.rl
    have hrsl : rs.length = d.rows.length := by simpa using hrs.length
    lcg_off
    refine firsts_row O8.fh hrv8 hrs8 (by omega) (fun t c q H2 Done Kept ht hk => ?_) fun op H9 n9 g9 e9 => ?_
    · lcg_off
      refine ⟨rfl, ?_⟩
      lcg_off
      refine iteT ?_
      lcg_off
      exact hk _ (Same.refl _)
    have g9' := g9.frz (p := op) e9 (O8.fh.free n9) n9
    have eo : upd F7 op (.lst ((d.rows.map (·.sign)).map wd)) op = some (.lst ((d.rows.map (·.sign)).map wd)) := upd_same
    generalize upd F7 op (.lst ((d.rows.map (·.sign)).map wd)) = F9 at g9' eo
    have O9 := O8.go g9'
    have s9 : Same F F9 := s7.trans g9'.ff
    lcg_off
    refine rd_sfldK O9.hd.h T.cl_Library T.no_Library_order (by show 5 < 1000; decide) ?_
    rw [fL_new5]
    have O10 := O9.put (u := .ins a.C_Library dx [("name", .str (tx d.name)), ("root_parameters", .ref np), ("kept", .ref kp), ("root_hook", hookV d.hook), ("rows", .ref rp), ("order", .ref op)])
    have hrv10 := O10.fh.seq (s9.seq hrv)
    lcg_off
    refine kvs_row (f := chD) O10.fh (s9.seq hrv) (hrs.mono s9) hrl wf.rn (fun t c r F1 H1 Kept hr f1 ht hc hk => ?_) (fun P1 P2 σ H h x => h _ _ x) (fun P1 P2 x σ H h y => h _ _ y) ?_ ?_ fun cp F11 H11 kvs g11 n11 e11 hkv11 => ?_
    · have ht1 := sqT_same f1 ht
      lcg_off
      refine ⟨rfl, ?_⟩
      lcg_off
      refine ⟨rfl, ?_⟩
      lcg_off
      exact hk _ (.tup hc (wd_dp r.changed))
    · exact ixT_mono
    · exact ixT_mono
    have O11 := O10.go g11
    have s11 : Same F F11 := s9.trans g11.ff
    lcg_off
    refine rd_sfldK O11.hd.h T.cl_Library T.no_Library_changes (by show 6 < 1000; decide) ?_
    rw [fL_new6]
    have O12 := O11.put (u := .ins a.C_Library dx [("name", .str (tx d.name)), ("root_parameters", .ref np), ("kept", .ref kp), ("root_hook", hookV d.hook), ("rows", .ref rp), ("order", .ref op), ("changes", .ref cp)])
    have hrv12 := O12.fh.seq (s11.seq hrv)
    lcg_off
    refine kvs_row (f := mkD) O12.fh (s11.seq hrv) (hrs.mono s11) hrl wf.rn (fun t c r F1 H1 Kept hr f1 ht hc hk => ?_) (fun P1 P2 σ H h x => h _ _ x) (fun P1 P2 x σ H h y => h _ _ y) ?_ ?_ fun mp F13 H13 kvs2 g13 n13 e13 hkv13 => ?_
    · have ht1 := sqT_same f1 ht
      lcg_off
      refine ⟨rfl, ?_⟩
      lcg_off
      refine ⟨rfl, ?_⟩
      lcg_off
      exact hk _ (.str _)
    · exact ixT_mono
    · exact ixT_mono
    have O13 := O12.go g13
    have s13 : Same F F13 := s11.trans g13.ff
    lcg_off
    refine rd_sfldK O13.hd.h T.cl_Library T.no_Library_made_by (by show 7 < 1000; decide) ?_
    rw [fL_new7]
    have O14 := O13.put (u := .ins a.C_Library dx (fM (.str (tx d.name)) (.ref np) (.ref kp) (hookV d.hook) (.ref rp) (.ref op) (.ref cp) (.ref mp)))
    have hs14 : SqL K F13 rp rs := sqL_of (g13.ff _ _ (g11.ff _ _ (g9'.ff _ _ e7)))
    have sx : Same F4 F13 := g7.ff.trans (g9'.ff.trans (g11.ff.trans g13.ff))
    lcg_off
    refine rd_methK (fs := fM (.str (tx d.name)) (.ref np) (.ref kp) (hookV d.hook) (.ref rp) (.ref op) (.ref cp) (.ref mp)) O14.hd.h (fM_no (by decide +kernel) (by decide +kernel) (by decide +kernel) (by decide +kernel) (by decide +kernel) (by decide +kernel) (by decide +kernel) (by decide +kernel)) ?_
    lcg_off
    refine ⟨F13, p, dx, _, d, np, kp, rp, ks, rs, rfl, O14.fh, O14.hd.h, ⟨fM_name, fM_root_parameters, fM_kept, fM_root_hook, fM_rows⟩, sqT_same (g4.ff.trans sx) hnp, sqT_same sx hkp, hks.mono s13, hs14, hrs.mono s13, wf, fun F15 H15 l15 g15 e15 => ?_⟩
    have O15 := O14.go g15
    lcg_off
    refine rd_joinW (.inl (sqL_of (g15.fh _ _ e15))) (Nat.le_trans (lines_len wf) (by decide)) ?_
    lcg_off
    refine rd_sfldK O15.hd.h T.cl_Library T.no_Library_text (by show 8 < 1000; decide) ?_
    have ef : putF "text" (.str (tx (TL.joinL [10] d.lines))) (fM (.str (tx d.name)) (.ref np) (.ref kp) (hookV d.hook) (.ref rp) (.ref op) (.ref cp) (.ref mp)) = fL (.str (tx d.name)) (.ref np) (.ref kp) (hookV d.hook) (.ref rp) (.ref op) (.ref cp) (.ref mp) (.str (tx d.text)) := fL_new8
    rw [ef]
    have O16 := O15.put (u := .ins a.C_Library dx (fL (.str (tx d.name)) (.ref np) (.ref kp) (hookV d.hook) (.ref rp) (.ref op) (.ref cp) (.ref mp) (.str (tx d.text))))
    have sz : Same F15 (upd F15 p (.ins a.C_Library dx (fL (.str (tx d.name)) (.ref np) (.ref kp) (hookV d.hook) (.ref rp) (.ref op) (.ref cp) (.ref mp) (.str (tx d.text))))) := same_new O15.hd.f
    have s4z := sx.trans (g15.ff.trans sz)
    have s13z := g15.ff.trans sz
    have s11z := g13.ff.trans s13z
    have s9z := g11.ff.trans s11z
    have s7z := g9'.ff.trans s9z
    refine k _ _ O16.frz ⟨dx, np, kp, rp, op, cp, mp, upd_same, sqT_same (g4.ff.trans s4z) hnp, ⟨ks, sqT_same s4z hkp, hks.mono (s13.trans s13z)⟩, ⟨rs, s7z _ _ e7, hrs.mono (s13.trans s13z)⟩, s9z _ _ eo, ⟨kvs, s11z _ _ e11, hkv11.mono s11z⟩, ⟨kvs2, s13z _ _ e13, hkv13.mono s13z⟩, wf⟩
end
end Lb

namespace Lb
open PySem L2 Hk
/-- the lines, one after another: the first wrong one, or the draft -/
def feed : Draft → List (List Wd) → Nat → Except Nat Draft
  | d, [], _ => .ok d
  | d, ws :: r, n => match d.takes ws with
    | none => .error n
    | some d' => feed d' r (n + 1)
def splitL (c : Nat) (l : Wd) : List Wd := TL.spl [c] 0 [] l
def readL (l : Wd) : Except Nat Draft := match feed .empty ((splitL 10 l).map (splitL 32)) 0 with
  | .error n => .error n
  | .ok d => if d.rows = [] then .error (splitL 10 l).length else .ok d
theorem feed_wf : ∀ {wss : List (List Wd)} {d d' : Draft} {n : Nat}, d.Wf → (∀ ws ∈ wss, ∀ w ∈ ws, okT w) → feed d wss n = .ok d' → d'.Wf
  | [], d, d', n, h, _, e => by cases e; exact h
  | ws :: r, d, d', n, h, hw, e => by
    unfold feed at e
    split at e
    · cases e
    · rename_i d1 e1
      exact feed_wf (takes_wf h (hw ws (List.mem_cons_self ..)) e1) (fun x hx => hw x (List.mem_cons_of_mem _ hx)) e
/-! ### what a split leaves -/
theorem spl_step (c x : Nat) (acc r : Wd) : TL.spl [c] 0 acc (x :: r) = if x = c then acc :: TL.spl [c] 0 [] r else TL.spl [c] 0 (acc ++ [x]) r := by
  show (if TL.pre [c] (x :: r) = true then acc :: TL.spl [c] 0 [] r else TL.spl [c] 0 (acc ++ [x]) r) = _
  have e : TL.pre [c] (x :: r) = decide (x = c) := by
    show (List.take 1 (x :: r) == [c]) = _
    show ([x] == [c]) = _
    by_cases h : x = c
    · subst h; simp
    · simp [h]
  rw [e]
  by_cases h : x = c
  · rw [if_pos h, if_pos (decide_eq_true h)]
  · rw [if_neg h, if_neg (by simpa using h)]
theorem spl_facts (c : Nat) : ∀ (l acc : Wd), TL.spl [c] 0 acc l ≠ [] ∧ (∀ w ∈ TL.spl [c] 0 acc l, ∀ x ∈ w, x ∈ acc ∨ x ∈ l) ∧ ((TL.spl [c] 0 acc l).map (·.length)).sum + (TL.spl [c] 0 acc l).length = acc.length + l.length + 1
  | [], acc => by
    refine ⟨by rw [TL.spl_nil]; simp, fun w hw x hx => ?_, by rw [TL.spl_nil]; simp⟩
    rw [TL.spl_nil] at hw
    rw [List.mem_singleton.mp hw] at hx
    exact .inl hx
  | y :: l, acc => by
    rw [spl_step]
    split
    · obtain ⟨h1, h2, h3⟩ := spl_facts c l []
      refine ⟨by simp, fun w hw x hx => ?_, ?_⟩
      · rcases List.mem_cons.mp hw with rfl | hw
        · exact .inl hx
        · rcases h2 w hw x hx with z | z
          · cases z
          · exact .inr (List.mem_cons_of_mem _ z)
      · rw [List.map_cons, List.sum_cons, List.length_cons, List.length_cons]
        simp only [List.length_nil] at h3
        omega
    · obtain ⟨h1, h2, h3⟩ := spl_facts c l (acc ++ [y])
      refine ⟨h1, fun w hw x hx => ?_, ?_⟩
      · rcases h2 w hw x hx with z | z
        · rcases List.mem_append.mp z with z | z
          · exact .inl z
          · rw [List.mem_singleton.mp z]
            exact .inr (List.mem_cons_self ..)
        · exact .inr (List.mem_cons_of_mem _ z)
      · rw [List.length_cons]
        simp only [List.length_append, List.length_singleton] at h3
        omega
theorem splitL_sum (c : Nat) (l : Wd) : ((splitL c l).map (·.length)).sum + (splitL c l).length = l.length + 1 := by
  have : ((splitL c l).map (·.length)).sum + (splitL c l).length = ([] : Wd).length + l.length + 1 := (spl_facts c l []).2.2
  simp only [List.length_nil] at this
  omega
theorem splitL_ok {c : Nat} {l : Wd} (h : okT l) : ∀ w ∈ splitL c l, okT w := fun w hw x hx => by
  rcases (spl_facts c l []).2.1 w hw x hx with z | z
  · cases z
  · exact h x z
theorem splitL_ws {c : Nat} {l : Wd} (h : okT l) (hl : l.length ≤ 9000) : WsOk (splitL c l) :=
  ⟨(spl_facts c l []).1, splitL_ok h, by have := splitL_sum c l; omega⟩
theorem splitL_len {c : Nat} {l w : Wd} (h : w ∈ splitL c l) : w.length ≤ l.length := by
  have h1 := sum_mem h
  have h2 := splitL_sum c l
  have h3 : 0 < (splitL c l).length := List.length_pos_iff.mpr (spl_facts c l []).1
  omega
def Err (C : Addr) (f : Str) (v : V) (H : Hp) (E : XK) : Prop := ∀ d H', Same H H' → H d = none → H' d = some (.xd [(f, v)]) → E (.ref C) (some d) H'
theorem Err.of {C : Addr} {f : Str} {v : V} {H H1 : Hp} {E : XK} (h : Err C f v H E) (s : Same H H1) : Err C f v H1 E := fun d H' s' n e => h d H' (s.trans s') (s.free n) e
def NotStr (K : PySem.W.Frag) (H : Hp) (v : V) : Prop := ∃ t, TyX K H v t ∧ PySem.W.kitOne K t (.type "str") = some false
local macro_rules | `(tactic| array_mem_dec) => `(tactic| with_reducible first
  | assumption | exact upd_same
  | (apply upd_new; assumption; array_mem_dec)
  | (apply upd_old; tlg_ne; array_mem_dec)
  | (apply same_at; assumption; array_mem_dec))
local macro_rules | `(tactic| tlg_ne) => `(tactic| with_reducible first
  | assumption | (apply Ne.symm; assumption)
  | (apply ne_new; assumption; array_mem_dec) | (apply ne_new'; assumption; array_mem_dec)
  | (apply ne_of; assumption; assumption; (with_unfolding_all (intro z; cases z; done))))
local macro_rules | `(tactic| decreasing_trivial_pre_omega) => `(tactic| with_reducible first
  | assumption | (apply sqL_of; array_mem_dec) | (apply sqT_of; array_mem_dec)
  | (apply Same.seq; assumption; decreasing_trivial_pre_omega) | (apply sqT_same; assumption; decreasing_trivial_pre_omega)
  | (apply sqL_new; assumption; decreasing_trivial_pre_omega) | (apply sqL_upd; tlg_ne; decreasing_trivial_pre_omega))
local macro_rules | `(tactic| kpt_turns) => `(tactic| with_reducible first
  | assumption | exact Same.refl _ | (apply same_ext; kpt_turns; assumption) | (apply same_mut; kpt_turns; keq_hits) | (apply same_step; assumption; kpt_turns))
local macro_rules | `(tactic| keq_hits) => `(tactic| with_reducible first | assumption | (apply same_none; assumption; keq_hits))
local macro_rules | `(tactic| sizeOf_list_dec) => `(tactic| first | (with_reducible assumption) | (with_reducible_and_instances omega) | (with_unfolding_all decide))
local macro_rules | `(tactic| array_get_dec) => `(tactic| first | (with_reducible assumption) | (apply sz_of; (with_unfolding_all simp); done) | (apply sz_of; omega) | (apply sz_lt; (with_unfolding_all simp); done) | (apply sz_lt; omega))
local macro_rules | `(tactic| keq_rows) => `(tactic| with_reducible first
  | apply rd_asgN | apply rd_seq | apply rd_parA | apply rd_par3A | apply rd_par2 | apply rd_par3 | apply rd_m1 | apply rd_isStr | apply rd_cval | apply rd_asg | apply rd_gname | apply rd_op | (show tVar _ _ _ _; refine rd_var (by with_unfolding_all rfl) ?_) | apply rd_c | apply rd_I0
  | apply rd_cons | apply rd_nil | apply rd_cb | apply rd_test | apply rd_bl | apply rd_fld | apply rd_drop | apply rd_ret | apply rd_retN | apply rd_next
  | apply rd_ifS | apply rd_un | apply rd_B | apply rd_and | apply rd_or | apply rd_not | apply rd_andV | apply rd_orV | apply rd_notV | apply rd_if
  | apply rd_int | apply rd_abs | apply rd_max | apply rd_min | apply rd_strS | apply rd_U
  | apply rd_eqTx | apply rd_neTx | apply rd_inTx | apply rd_notInTx | apply rd_fmt | (show FmtK (.str (tx _)) _ _; refine rd_fmtT (by omega) ?_) | apply rd_jsC | apply rd_jsN | (show JsK _ (tx _) _ (.str (tx _)) _ _; refine rd_JsK (by first | omega | (simp; done) | (simp; omega)) ?_) | (show rAddStr (.str (tx _)) (.str (tx _)) _ _; refine rd_addT (by first | omega | (simp; done) | (simp; omega)) ?_) | (show rLenStr [.str (tx _)] _ _; refine rd_lenTx (by omega) ?_)
  | (show rEq _ _ _ _; refine rd_eq (by with_unfolding_all rfl) ?_) | (show rNe _ _ _ _; refine rd_ne (by with_unfolding_all rfl) ?_) | apply rd_isNone | apply rd_notNone
  | (show rIxL _ _ _ _ _; refine rd_ixL (by decreasing_trivial_pre_omega) (by with_unfolding_all rfl) ?_) | (show rIxT _ _ _ _ _; refine rd_ixT (by decreasing_trivial_pre_omega) (by with_unfolding_all rfl) ?_)
  | (show rLenSeq _ _ _ _; refine rd_lenL (by decreasing_trivial_pre_omega) ?_) | (show rLenSeq _ _ _ _; refine rd_lenT (by decreasing_trivial_pre_omega) ?_)
  | (show rI _ _ _ _ _ _; refine rd_mod (by sizeOf_list_dec) ?_) | (show rI _ _ _ _ _ _; refine rd_div (by sizeOf_list_dec) (by sizeOf_list_dec) ?_) | (show rI _ _ _ _ _ _; refine rd_mulR (by sizeOf_list_dec) (by sizeOf_list_dec) ?_) | (show rI _ _ _ _ _ _; refine rd_mulL (by sizeOf_list_dec) (by sizeOf_list_dec) ?_) | (show rI _ _ _ _ _ _; refine rd_pow (by sizeOf_list_dec) ?_)
  | (show rSetL _ _ _ _ _; refine rd_setL (by array_mem_dec) (by with_unfolding_all rfl) ?_)
  | apply rd_inSign | apply rd_notInSign | apply rd_tupK | apply rd_lstK | apply rd_sl | apply rd_noPart | apply rd_part | apply rd_isInt
  | apply rd_gsub | apply rd_gcons | apply rd_gnil | apply rd_call | apply rd_meth | apply rd_make | apply rd_smeth | apply rd_isC | apply rd_smethK | apply rd_cmeth | apply rd_cmethK
  | apply rd_bm | apply rd_bm0 | (show BmK _ _ _ _ _ _ _ _; refine rd_bmL (by array_mem_dec) ?_) | (show Bm0K _ _ _ _ _ _; refine rd_bm0L (by array_mem_dec) ?_) | apply rd_sfld | apply rd_aug | apply rd_rAdd | apply rd_brk | apply rd_cont
  | apply rd_for | apply rd_iList | (show IList _ _ _ _; refine rd_IList (by decreasing_trivial_pre_omega) ?_) | apply rd_iTup | (show ITup _ _ _ _; refine rd_ITup (by decreasing_trivial_pre_omega) ?_) | apply rd_iEnum | (show IEnum _ _ _ _; refine rd_IEnum (by decreasing_trivial_pre_omega) ?_) | apply rd_iRng1 | (show IRng1 _ _ _; refine rd_IRng1 (by sizeOf_list_dec) (by sizeOf_list_dec) ?_)
  | (show rLenStr _ _ _; refine rd_lenS (by array_get_dec) ?_) | (show rAddStr _ _ _ _; refine rd_addS (by array_get_dec) ?_) | (show rSlS _ _ _ _ _; refine rd_slS (by array_get_dec) ?_) | apply rd_lc | apply rd_yes | (show gTup _ _ _ _ _ _ _; refine rd_gtup (by decreasing_trivial_pre_omega) (by with_unfolding_all rfl) ?_) | (show tMakeL _ _ _ _ _ _ _ _; refine rd_makeL (by with_unfolding_all rfl) ?_))
local macro_rules | `(tactic| kas_types) => `(tactic| with_reducible first | apply rd_isi_int_int | apply rd_isi_int_bool | apply rd_isi_int_str | apply rd_isi_int_list | apply rd_isi_int_tuple | apply rd_isi_bool_int | apply rd_isi_bool_bool | apply rd_isi_bool_str | apply rd_isi_bool_list | apply rd_isi_bool_tuple | apply rd_isi_str_int | apply rd_isi_str_bool | apply rd_isi_str_str | apply rd_isi_str_list | apply rd_isi_str_tuple | (show rIsi _ _ _ _; refine rd_isi_list_int (by array_mem_dec) ?_) | (show rIsi _ _ _ _; refine rd_isi_list_bool (by array_mem_dec) ?_) | (show rIsi _ _ _ _; refine rd_isi_list_str (by array_mem_dec) ?_) | (show rIsi _ _ _ _; refine rd_isi_list_list (by array_mem_dec) ?_) | (show rIsi _ _ _ _; refine rd_isi_list_tuple (by array_mem_dec) ?_) | (show rIsi _ _ _ _; refine rd_isi_tuple_int (by array_mem_dec) ?_) | (show rIsi _ _ _ _; refine rd_isi_tuple_bool (by array_mem_dec) ?_) | (show rIsi _ _ _ _; refine rd_isi_tuple_str (by array_mem_dec) ?_) | (show rIsi _ _ _ _; refine rd_isi_tuple_list (by array_mem_dec) ?_) | (show rIsi _ _ _ _; refine rd_isi_tuple_tuple (by array_mem_dec) ?_) | apply rd_isi_NoneType_int | apply rd_isi_NoneType_bool | apply rd_isi_NoneType_str | apply rd_isi_NoneType_list | apply rd_isi_NoneType_tuple)
local macro_rules | `(tactic| lcg_src) => `(tactic| repeat keq_rows)

local macro_rules | `(tactic| lcg_sub) => `(tactic| with_reducible first | apply rd_chain | refine fldD_name (by assumption) (by array_mem_dec) ?_ | refine fldD_parts (by assumption) (by array_mem_dec) ?_ | refine fldD_keeping (by assumption) (by array_mem_dec) ?_ | refine fldD_root_hook (by assumption) (by array_mem_dec) ?_ | refine fldD_rows (by assumption) (by array_mem_dec) ?_ | refine methD (by array_mem_dec) (by decide +kernel) (by decide +kernel) (by decide +kernel) (by decide +kernel) (by decide +kernel) ?_ | apply rd_raiseO)
local macro_rules | `(tactic| lcg_off) => `(tactic| repeat (first | keq_rows | lcg_sub))
section
variable {P : Program} {w : World} {K : PySem.W.Frag} {mg : Str → Option Value} {base : Heap} {a : Ad}
def sp_LibraryDraft_init (a : Ad) (K : PySem.W.Frag) : Sp := fun vs H Q _ => ∃ (F0 H0 F : Hp) (p dx : Addr), vs = [.ref p] ∧ OO F0 H0 F H p (.ins a.C_LibraryDraft dx []) ∧
  ∀ pp pk pr H', DAt a K F0 H0 F H' p dx pp pk pr Draft.empty → Q .non H'
theorem ok_LibraryDraft_init (T : Txt K mg a) : FnOk P w K mg base CX0 1 a.f_LibraryDraft_init a.fd_LibraryDraft_init ["self"]  (sp_LibraryDraft_init a K) := by
  refine T.F_LibraryDraft_init.ok sc_LibraryDraft_init (fun vs H Q E h => ?_) (fun cdv A outer s H vs Q E hr h => ?_)
  · obtain ⟨_, _, _, _, _, rfl, _⟩ := h
    rfl
  · obtain ⟨F0, H0, F, p, dx, rfl, O, k⟩ := h
    refine ⟨_, ((pss_cons (ps_fld (pv 0) pe_str rfl)
 (pss_cons (ps_fld (pv 0) (pe_lst pa_nil) rfl)
 (pss_cons (ps_fld (pv 0) (pe_lst pa_nil) rfl)
 (pss_cons (ps_fld (pv 0) pe_non rfl)
 (pss_one (ps_fld (pv 0) (pe_lst pa_nil) rfl))))))), ?_⟩
    try simp only [cxK, none_tx]
    lcg_off
    refine rd_sfldK O.hd.h T.cl_LibraryDraft T.no_LibraryDraft_name (by show 0 < 1000; decide) ?_
    rw [fD_new0]
    have O1 := O.put (u := .ins a.C_LibraryDraft dx [("name", .str (tx []))])
    lcg_off
    refine newO O1.fh fun H2 pp g2 n2 h2 => ?_
    have O2 := O1.go g2
    have m2 : p ≠ pp := ne_of_none O1.hd.h n2
    lcg_off
    refine rd_sfldK O2.hd.h T.cl_LibraryDraft T.no_LibraryDraft_parts (by show 1 < 1000; decide) ?_
    rw [fD_new1]
    have O3 := O2.put (u := .ins a.C_LibraryDraft dx [("name", .str (tx [])), ("parts", .ref pp)])
    have h3 := h2.other (u := .ins a.C_LibraryDraft dx [("name", .str (tx [])), ("parts", .ref pp)]) m2.symm
    lcg_off
    refine newO O3.fh fun H4 pk g4 n4 h4 => ?_
    have O4 := O3.go g4
    have h34 := h3.go0 g4
    have m4 : p ≠ pk := ne_of_none O3.hd.h n4
    have n1 : pp ≠ pk := ne_of_none h3.h n4
    lcg_off
    refine rd_sfldK O4.hd.h T.cl_LibraryDraft T.no_LibraryDraft_keeping (by show 2 < 1000; decide) ?_
    rw [fD_new2]
    have O5 := O4.put (u := .ins a.C_LibraryDraft dx [("name", .str (tx [])), ("parts", .ref pp), ("keeping", .ref pk)])
    have h5 := h34.other (u := .ins a.C_LibraryDraft dx [("name", .str (tx [])), ("parts", .ref pp), ("keeping", .ref pk)]) m2.symm
    have h5k := h4.other (u := .ins a.C_LibraryDraft dx [("name", .str (tx [])), ("parts", .ref pp), ("keeping", .ref pk)]) m4.symm
    lcg_off
    refine rd_sfldK O5.hd.h T.cl_LibraryDraft T.no_LibraryDraft_root_hook (by show 3 < 1000; decide) ?_
    rw [fD_new3]
    have O6 := O5.put (u := .ins a.C_LibraryDraft dx [("name", .str (tx [])), ("parts", .ref pp), ("keeping", .ref pk), ("root_hook", .non)])
    have h6 := h5.other (u := .ins a.C_LibraryDraft dx [("name", .str (tx [])), ("parts", .ref pp), ("keeping", .ref pk), ("root_hook", .non)]) m2.symm
    have h6k := h5k.other (u := .ins a.C_LibraryDraft dx [("name", .str (tx [])), ("parts", .ref pp), ("keeping", .ref pk), ("root_hook", .non)]) m4.symm
    lcg_off
    refine newO O6.fh fun H7 pr g7 n7 h7 => ?_
    have O7 := O6.go g7
    have h67 := h6.go0 g7
    have h67k := h6k.go0 g7
    have m7 : p ≠ pr := ne_of_none O6.hd.h n7
    have n2' : pp ≠ pr := ne_of_none h6.h n7
    have n3' : pk ≠ pr := ne_of_none h6k.h n7
    lcg_off
    refine rd_sfldK O7.hd.h T.cl_LibraryDraft T.no_LibraryDraft_rows (by show 4 < 1000; decide) ?_
    rw [fD_new4]
    have O8 := O7.put (u := .ins a.C_LibraryDraft dx [("name", .str (tx [])), ("parts", .ref pp), ("keeping", .ref pk), ("root_hook", .non), ("rows", .ref pr)])
    exact k pp pk pr _ ⟨O8.gr, O8.np, O1.gr.free n2, O3.gr.free n4, O6.gr.free n7, n1, n2', n3', O8.hd, h67.other m2.symm, ⟨[], h67k.other m4.symm, .nil⟩, ⟨[], h7.other m7.symm, .nil⟩, Draft.empty_wf⟩
def sp_Library_read (a : Ad) (K : PySem.W.Frag) : Sp := fun vs H Q E => ∃ (F : Hp) (v : V), vs = [.ref a.C_Library, v] ∧ Same F H ∧
  ((∃ l : Wd, v = .str (tx l) ∧ okT l ∧ l.length ≤ 9000 ∧ (∀ d, readL l = .ok d → ∀ F' H' p, Grow [] F H F' H' → IsLib a K F' p d → Q (.ref p) H') ∧ (∀ n : Nat, readL l = .error n → Err a.C_BadLibrary "at" (.int (n : Nat)) H E)) ∨
    (NotStr K H v ∧ Err a.C_BadLibrary "at" (.int (-1)) H E))
theorem ok_Library_read (T : Txt K mg a) : FnOk P w K mg base (CX P w) 6 a.f_Library_read a.fd_Library_read ["cls", "text"]  (sp_Library_read a K) := by
  refine T.F_Library_read.okX sc_Library_read (fun vs H Q E h => ?_) (fun cdv A outer s H vs Q E hr h => ?_)
  · obtain ⟨_, _, rfl, _⟩ := h
    rfl
  · obtain ⟨F, v, rfl, fh, h⟩ := h
    refine ⟨_, ((pss_cons (ps_if (pt_not (pt_val (pe_callB call_isi (by rfl) T.n_isinstance (by decide +kernel) (pa_cons (pv 1) (pa_cons (pe_bltn (v := .ty "str") (by rfl) T.n_str (by decide +kernel) rfl) pa_nil)))))
 (pss_one (ps_raiseO rfl (takes_of rfl rfl rfl rfl) T.ox_BadLibrary T.m_BadLibrary_init.at_ T.xt_BadLibrary (ok_BadLibrary_init T) (hr.mono (by decide)) T.b_BadLibrary_init pass0 rfl T.g_BadLibrary (pa_cons (pe_un un_neg pe_int) pa_nil)))
 pss_nil)
 (pss_cons (ps_set (i := 2) sc_Library_read.nd rfl (Or.inl rfl) (pe_make0 T.mk_LibraryDraft (ok_LibraryDraft_init T) (hr.mono (by decide)) rfl T.g_LibraryDraft T.b_LibraryDraft_init .nil pass0))
 (pss_cons (ps_set (i := 3) sc_Library_read.nd rfl (Or.inl rfl) (pe_splitR (pv 1) pe_str))
 (pss_cons (ps_for (passes_of rfl) rfl (pi_enum (by rfl) T.n_enumerate (pa_cons (pv 3) pa_nil)) (pg_tup rfl (pgs_cons (pg_name (i := 4) sc_Library_read.nd rfl (Or.inl rfl)) (pgs_cons (pg_name (i := 5) sc_Library_read.nd rfl (Or.inl rfl)) pgs_nil)))
 (pss_one (ps_if (pt_not (pt_val (pe_meth (pv 2) T.cl_LibraryDraft T.m_LibraryDraft_takes_line (ok_LibraryDraft_takes_line T) hr T.b_LibraryDraft_takes_line .nil pass0 (pa_cons (pe_splitR (pv 5) pe_str) pa_nil))))
 (pss_one (ps_raiseO rfl (takes_of rfl rfl rfl rfl) T.ox_BadLibrary T.m_BadLibrary_init.at_ T.xt_BadLibrary (ok_BadLibrary_init T) (hr.mono (by decide)) T.b_BadLibrary_init pass0 rfl T.g_BadLibrary (pa_cons (pv 4) pa_nil)))
 pss_nil)))
 (pss_cons (ps_if (pt_cmpR (op_eqD hr.units) (pe_fld (pv 2) rfl) (pe_lst pa_nil) (nomark _))
 (pss_one (ps_raiseO rfl (takes_of rfl rfl rfl rfl) T.ox_BadLibrary T.m_BadLibrary_init.at_ T.xt_BadLibrary (ok_BadLibrary_init T) (hr.mono (by decide)) T.b_BadLibrary_init pass0 rfl T.g_BadLibrary (pa_cons (pe_callB call_lenSeq (by rfl) T.n_len (by decide +kernel) (pa_cons (pv 3) pa_nil)) pa_nil)))
 pss_nil)
 (pss_one (ps_ret (pe_makeL (i := 0) T.mk_Library (ok_Library_init T) (hr.mono (by decide)) rfl (Or.inl rfl) T.b_Library_init pass0 (pa_cons (pe_fld (pv 2) rfl) (pa_cons (pe_fld (pv 2) rfl) (pa_cons (pe_fld (pv 2) rfl) (pa_cons (pe_fld (pv 2) rfl) (pa_cons (pe_fld (pv 2) rfl) pa_nil)))))))))))))), ?_⟩
    try simp only [cxK, space_tx, show Str.ofString "\n" = tx [10] by decide +kernel]
    rcases h with ⟨l, rfl, ho, hl, k1, k2⟩ | ⟨⟨ty, ht, hk⟩, k⟩
    · lcg_off
      kas_types
      lcg_off
      refine iteF ?_
      lcg_off
      intro x dx nx ndx ne
      have h1 : (upd H dx (.own x)) x = none := upd_oldN ne.symm nx
      have g1 := ((Grow.refl (S := []) fh).new (o := .own x) ndx).newO (o := .ins a.C_LibraryDraft dx []) h1
      have fx : upd F dx (.own x) x = none := upd_oldN ne.symm (fh.free nx)
      refine ⟨F, H, _, x, dx, rfl, ⟨g1, nx, fx, upd_same⟩, fun pp pk pr H1 D1 => ⟨rfl, ?_⟩⟩
      have hs1 := D1.me.h
      lcg_off
      refine new_split D1.gr.fh (by decide) (by omega) fun F2 H2 sp g2 n2 e2 => ?_
      have D2 := D1.beside g2
      have hll : (splitL 10 l).length ≤ 9001 := by have := splitL_sum 10 l; omega
      have hwf : ∀ ws ∈ (splitL 10 l).map (splitL 32), ∀ w ∈ ws, okT w := by
        intro ws hws
        obtain ⟨q, hq, rfl⟩ := List.mem_map.mp hws
        exact splitL_ok (splitL_ok ho q hq)
      have e2' : F2 sp = some (.lst ((splitL 10 l).map wd)) := e2
      lcg_off
      refine rd_IEnum (xs := (splitL 10 l).map wd) (sqL_of (g2.fh _ _ e2')) ?_
      refine fk_enum (xs := (splitL 10 l).map wd) (fun i σ H3 => ∃ F3 d, DAt a K F H F3 H3 x dx pp pk pr d ∧ F3 sp = some (.lst ((splitL 10 l).map wd)) ∧ feed .empty ((splitL 10 l).map (splitL 32)) 0 = feed d (((splitL 10 l).map (splitL 32)).drop i) i ∧ ∃ v4 v5, σ = [some (.ref a.C_Library), some (.str (tx l)), some (.ref x), some (.ref sp), v4, v5])
        ⟨F2, .empty, D2, e2', rfl, none, none, rfl⟩ (fun i σ H3 _ ⟨F3, d, D3, e3, _⟩ => sqL_of (D3.gr.fh _ _ e3)) ?_ ?_
      · rintro i y T3 σ H3 hy hT ⟨F3, d, D3, e3, hfd, v4, v5, rfl⟩
        rw [List.getElem?_map] at hy
        cases hq : (splitL 10 l)[i]? with
        | none => rw [hq] at hy; cases hy
        | some q =>
          rw [hq] at hy
          obtain rfl : V.str (tx q) = y := Option.some.inj hy
          have hqm := List.mem_of_getElem? hq
          have hql := splitL_len hqm
          have hqo := splitL_ok ho q hqm
          have gT := (Grow.refl (S := []) D3.gr.fh).new (o := .tup [.int (i : Nat), .str (tx q)]) hT
          have D4 := D3.beside gT
          have hs4 := D4.me.h
          have hdr : ((splitL 10 l).map (splitL 32)).drop i = splitL 32 q :: ((splitL 10 l).map (splitL 32)).drop (i + 1) := by
            obtain ⟨i1, i2⟩ := List.getElem?_eq_some_iff.mp hq
            rw [List.drop_eq_getElem_cons (by simpa using i1)]
            simp [i2]
          rw [hdr] at hfd
          lcg_off
          refine new_split D4.gr.fh (by decide) (by omega) fun F5 H5 wl g5 n5 e5 => ?_
          have D5 := D4.beside g5
          lcg_off
          refine ⟨F, H, F5, x, dx, pp, pk, pr, d, splitL 32 q, wl, rfl, D5, sqL_of e5, splitL_ws hqo (by omega), fun F6 H6 D6 s6 => ?_⟩
          lcg_off
          cases ht : d.takes (splitL 32 q) with
          | none =>
            refine iteT ?_
            lcg_off
            refine rd_err1 fun dd H' z1 z2 z3 => ?_
            refine k2 i ?_ dd H' (D6.gr.same.trans z2) (D6.gr.same.free z1) z3
            unfold readL
            rw [hfd]
            unfold feed
            rw [ht]
          | some d' =>
            refine iteF ?_
            lcg_off
            rw [ht] at D6
            refine ⟨F6, d', D6, s6 _ _ (g5.ff _ _ (gT.ff _ _ e3)), ?_, _, _, rfl⟩
            rw [hfd]
            conv => lhs; unfold feed
            rw [ht]
      · rintro σ H3 ⟨F3, d, D3, e3, hfd, v4, v5, rfl⟩
        have hs3 := D3.me.h
        rw [List.length_map, List.drop_eq_nil_of_le (by simp)] at hfd
        have hfd : feed .empty ((splitL 10 l).map (splitL 32)) 0 = .ok d := hfd
        lcg_off
        refine newL D3.gr.fh fun F4 H4 l4 g4 n4 e4 => ?_
        have D4 := D3.beside g4
        have hs4 := D4.me.h
        have hsp4 := g4.fh _ _ (g4.ff _ _ e3)
        refine D4.eqR (g4.fh _ _ e4) ?_
        lcg_off
        refine ifD (fun c => ?_) (fun c => ?_)
        · lcg_off
          rw [List.length_map]
          refine rd_err1 fun dd H' z1 z2 z3 => ?_
          refine k2 (splitL 10 l).length ?_ dd H' (D4.gr.same.trans z2) (D4.gr.same.free z1) z3
          unfold readL
          rw [hfd]
          exact if_pos c
        · lcg_off
          intro p dp np ndp nep
          obtain ⟨ks, hk1, hk2⟩ := D4.ke
          obtain ⟨rs, hr1, hr2⟩ := D4.ro
          have gA := D4.gr.frz D4.pa.h D4.pa.f D4.npp
          have sA : Same F4 (upd F4 pp (.lst (d.parts.map wd))) := same_new D4.pa.f
          have fA : upd F4 pp (.lst (d.parts.map wd)) pk = none := upd_oldN D4.n1.symm hk1.f
          have gB := gA.frz hk1.h fA D4.npk
          have sB := same_new (u := .lst ks) fA
          have fB : upd (upd F4 pp (.lst (d.parts.map wd))) pk (.lst ks) pr = none := upd_oldN D4.n3.symm (upd_oldN D4.n2.symm hr1.f)
          have gC := gB.frz hr1.h fB D4.npr
          have sC := same_new (u := .lst rs) fB
          have i1 := sC _ _ (sB _ _ (upd_same (H := F4) (a := pp) (o := .lst (d.parts.map wd))))
          have i2 := sC _ _ (upd_same (H := upd F4 pp (.lst (d.parts.map wd))) (a := pk) (o := .lst ks))
          have i3 := upd_same (H := upd (upd F4 pp (.lst (d.parts.map wd))) pk (.lst ks)) (a := pr) (o := .lst rs)
          have sD := sA.trans (sB.trans sC)
          generalize upd (upd (upd F4 pp (.lst (d.parts.map wd))) pk (.lst ks)) pr (.lst rs) = F5 at gC i1 i2 i3 sD
          have h5 : (upd H4 dp (.own p)) p = none := upd_oldN nep.symm np
          have gE := (gC.new (o := .own p) ndp).newO (o := .ins a.C_Library dp []) h5
          have fE : upd F5 dp (.own p) p = none := upd_oldN nep.symm (gC.fh.free np)
          have sE : Same F5 (upd F5 dp (.own p)) := same_new (gC.fh.free ndp)
          refine ⟨F, H, upd F5 dp (.own p), p, dp, d, pp, pk, pr, ks, rs, rfl, ⟨gE, D4.gr.free np, fE, upd_same⟩, .inl (sqL_of (sE _ _ i1)), .inl (sqL_of (sE _ _ i2)), (hk2.mono sD).mono sE, sqL_of (sE _ _ i3), (hr2.mono sD).mono sE, D4.wf, fun F7 H7 g7 h7 => ⟨rfl, ?_⟩⟩
          refine k1 d ?_ F7 H7 p g7 h7
          unfold readL
          rw [hfd]
          exact if_neg c
    · lcg_off
      refine rd_isi (.ty _) ht hk ?_
      lcg_off
      refine iteT ?_
      lcg_off
      refine rd_err1 fun d H' z1 z2 z3 => ?_
      exact k d H' z2 z1 z3
def sp_Library_str (a : Ad) (K : PySem.W.Frag) : Sp := fun vs H Q _ => ∃ (F : Hp) (p : Addr) (d : Draft), vs = [.ref p] ∧ Same F H ∧ IsLib a K F p d ∧ Q (.str (tx d.text)) H
theorem ok_Library_str (T : Txt K mg a) : FnOk P w K mg base CX0 1 a.f_Library_str a.fd_Library_str ["self"]  (sp_Library_str a K) := by
  refine T.F_Library_str.ok sc_Library_str (fun vs H Q E h => ?_) (fun cdv A outer s H vs Q E hr h => ?_)
  · obtain ⟨_, _, _, rfl, _⟩ := h
    rfl
  · obtain ⟨F, p, d, rfl, fh, ⟨dx, np, kp, rp, op, cp, mp, L⟩, k⟩ := h
    refine ⟨_, ((pss_one (ps_ret (pe_callTy call_strS (by rfl) T.n_str (by decide +kernel) (pa_cons (pe_fld (pv 0) rfl) pa_nil))))), ?_⟩
    try simp only [cxK]
    lcg_off
    refine fldL_text T (fh _ _ L.me) ?_
    lcg_off
    exact k
end
section
variable {X : Cx} {a : Ad}
theorem own_Library_str (T : Txt X.K X.mg a) : Own X a.C_Library "__str__" 1 (sp_Library_str a X.K) E0 := ⟨_, _, _, CX0, ok_Library_str T, T.m_Library_str.at_, T.m_Library_str.fn, T.b_Library_str, pass0⟩
end
end Lb

namespace Lb
open PySem L2 Hk
theorem l_a : Str.ofString "a" = tx [97] := by decide +kernel
theorem l_z : Str.ofString "z" = tx [122] := by decide +kernel
theorem l_y : Str.ofString "y" = tx [121] := by decide +kernel
theorem l_m : Str.ofString "m" = tx [109] := by decide +kernel
theorem l_o : Str.ofString "o" = tx [111] := by decide +kernel
theorem l_s : Str.ofString "s" = tx [115] := by decide +kernel
theorem l_e : Str.ofString "e" = tx [101] := by decide +kernel
theorem l_r : Str.ofString "r" = tx [114] := by decide +kernel
theorem l_x : Str.ofString "x" = tx [120] := by decide +kernel
theorem l_Q : Str.ofString "Q" = tx [81] := by decide +kernel
theorem wbar_tx : (Str.ofString "name" = tx [110, 97, 109, 101]) ∧ (Str.ofString "to" = tx [116, 111]) ∧ (Str.ofString "world" = tx [119, 111, 114, 108, 100]) := by decide +kernel
theorem erase_map {α β : Type} (f : α → β) (xs : List α) (k : Nat) : (xs.map f).eraseIdx k = (xs.eraseIdx k).map f := by
  rw [List.eraseIdx_eq_take_drop_succ, List.eraseIdx_eq_take_drop_succ, List.map_append, List.map_take, List.map_drop]
theorem lower_cap : ∀ c ∈ caps, Txt.lower (tx [c]) = tx [c + 32] := by decide +kernel
theorem rd_lower {σ : L2.St} {H : Hp} {Q : VK} {n : Nat} {c d : Nat} (e : σ[n]? = some (some (.str (tx [c])))) (h : Txt.lower (tx [c]) = tx [d]) (q : Q (.str (tx [d])) H) :
    tM0 (fun x xs H Q => ∃ a, x = V.str a ∧ xs = [] ∧ a.length ≤ 5592405 ∧ Q (V.str (Txt.lower a)) H) (tVar n) σ H Q :=
  ⟨_, e, ⟨_, rfl⟩, _, rfl, rfl, by rw [tx_len]; simp, by rw [h]; exact q⟩
local macro_rules | `(tactic| array_mem_dec) => `(tactic| with_reducible first
  | assumption | exact upd_same
  | (apply upd_new; assumption; array_mem_dec)
  | (apply upd_old; tlg_ne; array_mem_dec)
  | (apply same_at; assumption; array_mem_dec))
local macro_rules | `(tactic| tlg_ne) => `(tactic| with_reducible first
  | assumption | (apply Ne.symm; assumption)
  | (apply ne_new; assumption; array_mem_dec) | (apply ne_new'; assumption; array_mem_dec)
  | (apply ne_of; assumption; assumption; (with_unfolding_all (intro z; cases z; done))))
local macro_rules | `(tactic| decreasing_trivial_pre_omega) => `(tactic| with_reducible first
  | assumption | (apply sqL_of; array_mem_dec) | (apply sqT_of; array_mem_dec)
  | (apply Same.seq; assumption; decreasing_trivial_pre_omega) | (apply sqT_same; assumption; decreasing_trivial_pre_omega)
  | (apply sqL_new; assumption; decreasing_trivial_pre_omega) | (apply sqL_upd; tlg_ne; decreasing_trivial_pre_omega))
local macro_rules | `(tactic| kpt_turns) => `(tactic| with_reducible first
  | assumption | exact Same.refl _ | (apply same_ext; kpt_turns; assumption) | (apply same_mut; kpt_turns; keq_hits) | (apply same_step; assumption; kpt_turns))
local macro_rules | `(tactic| keq_hits) => `(tactic| with_reducible first | assumption | (apply same_none; assumption; keq_hits))
local macro_rules | `(tactic| sizeOf_list_dec) => `(tactic| first | (with_reducible assumption) | (with_reducible_and_instances omega) | (with_unfolding_all decide))
local macro_rules | `(tactic| array_get_dec) => `(tactic| first | (with_reducible assumption) | (apply sz_of; (with_unfolding_all simp); done) | (apply sz_of; omega) | (apply sz_lt; (with_unfolding_all simp); done) | (apply sz_lt; omega))
local macro_rules | `(tactic| keq_rows) => `(tactic| with_reducible first
  | apply rd_asgN | apply rd_seq | apply rd_parA | apply rd_par3A | apply rd_par2 | apply rd_par3 | apply rd_m1 | apply rd_isStr | apply rd_cval | apply rd_asg | apply rd_gname | apply rd_op | (show tVar _ _ _ _; refine rd_var (by with_unfolding_all rfl) ?_) | apply rd_c | apply rd_I0
  | apply rd_cons | apply rd_nil | apply rd_cb | apply rd_test | apply rd_bl | apply rd_fld | apply rd_drop | apply rd_ret | apply rd_retN | apply rd_next
  | apply rd_ifS | apply rd_un | apply rd_B | apply rd_and | apply rd_or | apply rd_not | apply rd_andV | apply rd_orV | apply rd_notV | apply rd_if
  | apply rd_int | apply rd_abs | apply rd_max | apply rd_min | apply rd_strS | apply rd_U
  | apply rd_eqTx | apply rd_neTx | apply rd_inTx | apply rd_notInTx | apply rd_fmt | (show FmtK (.str (tx _)) _ _; refine rd_fmtT (by omega) ?_) | apply rd_jsC | apply rd_jsN | (show JsK _ (tx _) _ (.str (tx _)) _ _; refine rd_JsK (by first | omega | (simp; done) | (simp; omega)) ?_) | (show rAddStr (.str (tx _)) (.str (tx _)) _ _; refine rd_addT (by first | omega | (simp; done) | (simp; omega)) ?_) | (show rLenStr [.str (tx _)] _ _; refine rd_lenTx (by omega) ?_)
  | (show rEq _ _ _ _; refine rd_eq (by with_unfolding_all rfl) ?_) | (show rNe _ _ _ _; refine rd_ne (by with_unfolding_all rfl) ?_) | apply rd_isNone | apply rd_notNone
  | (show rIxL _ _ _ _ _; refine rd_ixL (by decreasing_trivial_pre_omega) (by with_unfolding_all rfl) ?_) | (show rIxT _ _ _ _ _; refine rd_ixT (by decreasing_trivial_pre_omega) (by with_unfolding_all rfl) ?_)
  | (show rLenSeq _ _ _ _; refine rd_lenL (by decreasing_trivial_pre_omega) ?_) | (show rLenSeq _ _ _ _; refine rd_lenT (by decreasing_trivial_pre_omega) ?_)
  | (show rI _ _ _ _ _ _; refine rd_mod (by sizeOf_list_dec) ?_) | (show rI _ _ _ _ _ _; refine rd_div (by sizeOf_list_dec) (by sizeOf_list_dec) ?_) | (show rI _ _ _ _ _ _; refine rd_mulR (by sizeOf_list_dec) (by sizeOf_list_dec) ?_) | (show rI _ _ _ _ _ _; refine rd_mulL (by sizeOf_list_dec) (by sizeOf_list_dec) ?_) | (show rI _ _ _ _ _ _; refine rd_pow (by sizeOf_list_dec) ?_)
  | (show rSetL _ _ _ _ _; refine rd_setL (by array_mem_dec) (by with_unfolding_all rfl) ?_)
  | apply rd_inSign | apply rd_notInSign | apply rd_tupK | apply rd_lstK | apply rd_sl | apply rd_noPart | apply rd_part | apply rd_isInt
  | apply rd_gsub | apply rd_gcons | apply rd_gnil | apply rd_call | apply rd_meth | apply rd_make | apply rd_smeth | apply rd_isC | apply rd_smethK | apply rd_cmeth | apply rd_cmethK
  | apply rd_bm | apply rd_bm0 | (show BmK _ _ _ _ _ _ _ _; refine rd_bmL (by array_mem_dec) ?_) | (show Bm0K _ _ _ _ _ _; refine rd_bm0L (by array_mem_dec) ?_) | apply rd_sfld | apply rd_aug | apply rd_rAdd | apply rd_brk | apply rd_cont
  | apply rd_for | apply rd_iList | (show IList _ _ _ _; refine rd_IList (by decreasing_trivial_pre_omega) ?_) | apply rd_iTup | (show ITup _ _ _ _; refine rd_ITup (by decreasing_trivial_pre_omega) ?_) | apply rd_iEnum | (show IEnum _ _ _ _; refine rd_IEnum (by decreasing_trivial_pre_omega) ?_) | apply rd_iRng1 | (show IRng1 _ _ _; refine rd_IRng1 (by sizeOf_list_dec) (by sizeOf_list_dec) ?_)
  | (show rLenStr _ _ _; refine rd_lenS (by array_get_dec) ?_) | (show rAddStr _ _ _ _; refine rd_addS (by array_get_dec) ?_) | (show rSlS _ _ _ _ _; refine rd_slS (by array_get_dec) ?_) | apply rd_lc | apply rd_yes | (show gTup _ _ _ _ _ _ _; refine rd_gtup (by decreasing_trivial_pre_omega) (by with_unfolding_all rfl) ?_) | (show tMakeL _ _ _ _ _ _ _ _; refine rd_makeL (by with_unfolding_all rfl) ?_))
local macro_rules | `(tactic| kas_types) => `(tactic| with_reducible first | apply rd_isi_int_int | apply rd_isi_int_bool | apply rd_isi_int_str | apply rd_isi_int_list | apply rd_isi_int_tuple | apply rd_isi_bool_int | apply rd_isi_bool_bool | apply rd_isi_bool_str | apply rd_isi_bool_list | apply rd_isi_bool_tuple | apply rd_isi_str_int | apply rd_isi_str_bool | apply rd_isi_str_str | apply rd_isi_str_list | apply rd_isi_str_tuple | (show rIsi _ _ _ _; refine rd_isi_list_int (by array_mem_dec) ?_) | (show rIsi _ _ _ _; refine rd_isi_list_bool (by array_mem_dec) ?_) | (show rIsi _ _ _ _; refine rd_isi_list_str (by array_mem_dec) ?_) | (show rIsi _ _ _ _; refine rd_isi_list_list (by array_mem_dec) ?_) | (show rIsi _ _ _ _; refine rd_isi_list_tuple (by array_mem_dec) ?_) | (show rIsi _ _ _ _; refine rd_isi_tuple_int (by array_mem_dec) ?_) | (show rIsi _ _ _ _; refine rd_isi_tuple_bool (by array_mem_dec) ?_) | (show rIsi _ _ _ _; refine rd_isi_tuple_str (by array_mem_dec) ?_) | (show rIsi _ _ _ _; refine rd_isi_tuple_list (by array_mem_dec) ?_) | (show rIsi _ _ _ _; refine rd_isi_tuple_tuple (by array_mem_dec) ?_) | apply rd_isi_NoneType_int | apply rd_isi_NoneType_bool | apply rd_isi_NoneType_str | apply rd_isi_NoneType_list | apply rd_isi_NoneType_tuple)
local macro_rules | `(tactic| lcg_src) => `(tactic| repeat keq_rows)

local macro_rules | `(tactic| lcg_sub) => `(tactic| with_reducible first | apply rd_chain)
local macro_rules | `(tactic| lcg_off) => `(tactic| repeat (first | keq_rows | lcg_sub))
section
variable {P : Program} {w : World} {K : PySem.W.Frag} {mg : Str → Option Value} {base : Heap} {a : Ad}
theorem bag_newO {F H : Hp} {b p : Addr} {o : HO} (h : Bag3 F H b) (n : H p = none) : Grow [b] F H F (upd H p o) ∧ Bag3 F (upd H p o) b ∧ Hold F (upd H p o) p o := by
  have g : Grow [] F H F (upd H p o) := (Grow.refl h.fh).newO n
  exact ⟨g.weak, h.go0 g, Hold.new h.fh n⟩
def sp_law_names (good : Wd → Bool) : Sp := fun vs H Q _ => ∃ (F : Hp) (b : Addr) (n : Nat), vs = [.ref b, .int (n : Nat)] ∧ Bag3 F H b ∧ n ≤ 26 ∧
  ∀ F' H' p (ws : List Wd), Grow [b] F H F' H' → Bag3 F' H' b → H p = none → Hold F' H' p (.lst (ws.map wd)) → ws.length = n → (∀ w ∈ ws, good w = true) → ws.Nodup → Q (.ref p) H'
theorem ok_law_words (T : Txt K mg a) : FnOk P w K mg base CX0 3 a.f_law_words a.fd_law_words ["_law_bag_here", "_law_many"]  (sp_law_names isFieldB) := by
  refine T.F_law_words.ok sc_law_words (fun vs H Q E h => ?_) (fun cdv A outer s H vs Q E hr h => ?_)
  · obtain ⟨_, _, _, rfl, _⟩ := h
    rfl
  · obtain ⟨F, b, n, rfl, hb, hn, k⟩ := h
    refine ⟨_, ((pss_cons (ps_par3 (i := 2) (j := 3) (l := 4) (by rfl) sc_law_words.nd rfl rfl rfl (by decide) (by decide) (by decide) rfl rfl rfl (pa_cons (pe_callTy (call_listS rfl) (by rfl) T.n_list (by decide +kernel) (pa_cons pe_str pa_nil)) (pa_cons (pe_lst pa_nil) (pa_cons pe_str pa_nil))) (by rfl))
 (pss_cons (ps_for PassesOwn.never rfl (pi_range1 rfl T.n_range (pa_cons (pe_call (ok_law_take T) (hr.mono (by decide)) rfl T.g_law_take T.F_law_take.kp T.b_law_take .nil pass0 (pa_cons (pv 0) (pa_cons pe_int pa_nil))) pa_nil)) (pg_name (i := 5) sc_law_words.nd rfl (Or.inl rfl))
 (pss_one (ps_set (i := 4) sc_law_words.nd rfl (Or.inl rfl) (pe_op op_addStr (pv 4) (pe_call (ok_law_of T) hr rfl T.g_law_of T.F_law_of.kp T.b_law_of .nil pass0 (pa_cons (pv 0) (pa_cons (pe_lst (pa_cons pe_str (pa_cons pe_str (pa_cons pe_str (pa_cons pe_str (pa_cons pe_str (pa_cons pe_str pa_nil))))))) pa_nil)))))))
 (pss_cons (ps_set (i := 6) sc_law_words.nd rfl (Or.inl rfl) (pe_cmpR op_eq (pe_call (ok_law_take T) (hr.mono (by decide)) rfl T.g_law_take T.F_law_take.kp T.b_law_take .nil pass0 (pa_cons (pv 0) (pa_cons pe_int pa_nil))) pe_int (nomark _)))
 (pss_cons (ps_for PassesOwn.never rfl (pi_range1 rfl T.n_range (pa_cons (pv 1) pa_nil)) (pg_name (i := 5) sc_law_words.nd rfl (Or.inl rfl))
 (pss_cons (ps_set (i := 7) sc_law_words.nd rfl (Or.inl rfl) (pe_bm PySem.F.plainAttrs_list PySem.F.slot_list_pop PySem.F.type_list_pop mt_popAt (pv 2) (pa_cons (pe_call (ok_law_take T) (hr.mono (by decide)) rfl T.g_law_take T.F_law_take.kp T.b_law_take .nil pass0 (pa_cons (pv 0) (pa_cons (pe_callB call_lenSeq (by rfl) T.n_len (by decide +kernel) (pa_cons (pv 2) pa_nil)) pa_nil))) pa_nil)))
 (pss_cons (ps_set (i := 8) sc_law_words.nd rfl (Or.inl rfl) (pe_ifExp (pt_val (pv 6)) (pe_op op_addStr (pv 7) (pv 4)) (pe_op op_addStr (pv 4) (pv 7))))
 (pss_one (ps_expr (pe_bm PySem.F.plainAttrs_list PySem.F.slot_list_append PySem.F.type_list_append mt_append (pv 3) (pa_cons (pe_ifExp (pt_cmpR op_in_seq (pv 8) (pe_lst (pa_cons pe_str (pa_cons pe_str (pa_cons pe_str (pa_cons pe_str (pa_cons pe_str (pa_cons pe_str pa_nil))))))) (by rfl)) (pe_op op_addStr (pv 8) pe_str) (pv 8)) pa_nil)))))))
 (pss_one (ps_ret (pv 3)))))))), ?_⟩
    try simp only [cxK, lets_tx, none_tx, l_a, l_z, l_y, l_m, l_o, l_s, l_x, by_tx, changes_tx, of_tx, wbar_tx.1, wbar_tx.2.1, wbar_tx.2.2]
    lcg_off
    refine rd_listS (by decide) fun lf nlf => ?_
    obtain ⟨g1, hb1, hl1⟩ := bag_newO hb (o := .lst ((lets.map fun c => [c]).map wd)) nlf
    generalize upd H lf (.lst ((lets.map fun c => [c]).map wd)) = H1 at g1 hb1 hl1
    have nlb : lf ≠ b := fun z => hb.nn (z ▸ nlf)
    lcg_off
    refine newO hb1.fh fun H2 fd g2 nfd hf2 => ?_
    have hb2 := hb1.go0 g2
    have hl2 := hl1.go0 g2
    have g12 := g1.step (S' := []) g2
    have nfb : fd ≠ b := fun z => hb1.nn (z ▸ nfd)
    have nlf2 : lf ≠ fd := ne_of_none hl1.h nfd
    have nfd0 : H fd = none := g1.free nfd
    lcg_off
    refine take_ok hb2 (by decide) (by decide) fun r H3 hr3 g3 hb3 => ?_
    have hl3 := hl2.goB g3 nlb
    have hf3 := hf2.goB g3 nfb
    have g13 := g12.trans g3
    have hr8 : r < 8 := by omega
    lcg_off
    refine fk_range (fun i σ H4 => ∃ (stem : Wd) (F4 : Hp), Grow [b] F H F4 H4 ∧ Bag3 F4 H4 b ∧ Hold F4 H4 lf (.lst ((lets.map fun c => [c]).map wd)) ∧ Hold F4 H4 fd (.lst []) ∧ stem.length = i ∧ (∀ x ∈ stem, x ∈ lets) ∧ ∃ v5, σ = [some (.ref b), some (.int (n : Nat)), some (.ref lf), some (.ref fd), some (.str (tx stem)), v5, none, none, none])
      ⟨[], F, g13, hb3, hl3, hf3, rfl, (fun x hx => by cases hx), none, rfl⟩ ?_ ?_
    · rintro i σ H4 hi ⟨stem, F4, g4, hb4, hl4, hf4, hsl, hsm, v5, rfl⟩
      have hi8 : i < 8 := by have : i < ((r : Nat) : Int).toNat := hi; omega
      lcg_off
      refine newL hb4.fh fun F5 H5 l5 g5 n5 e5 => ?_
      have hb5 := hb4.go0 g5
      lcg_off
      refine of_words (ws := [[97], [122], [121], [109], [111], [115]]) hb5 e5 (by decide) (by decide) fun x H6 hx g6 hb6 => ?_
      have hx1 : x.length = 1 ∧ ∀ y ∈ x, y ∈ lets := (by decide : ∀ x ∈ [[97], [122], [121], [109], [111], [115]], x.length = 1 ∧ ∀ y ∈ x, y ∈ lets) x hx
      have hxl := hx1.1
      lcg_off
      refine ⟨stem ++ x, F5, g4.trans (g5.weak.trans g6), hb6, (hl4.go0 g5).goB g6 nlb, (hf4.go0 g5).goB g6 nfb, by rw [List.length_append]; omega, fun y hy => ?_, _, rfl⟩
      rcases List.mem_append.mp hy with hy | hy
      · exact hsm y hy
      · exact hx1.2 y hy
    · rintro σ H4 ⟨stem, F4, g4, hb4, hl4, hf4, hsl, hsm, v5, rfl⟩
      have hsl : stem.length = ((r : Nat) : Int).toNat := hsl
      have hsl7 : stem.length ≤ 7 := by omega
      lcg_off
      refine take_ok hb4 (by decide) (by decide) fun ah H5 hah g5 hb5 => ?_
      have g15 := g4.trans g5
      lcg_off
      generalize hA : decide (V.int (ah : Int) = V.int 0) = A0
      refine fk_range (n := n) (fun i σ H6 => ∃ (us left : List Nat) (F6 : Hp), Grow [b] F H F6 H6 ∧ Bag3 F6 H6 b ∧ Taken lets us left ∧ us.length = i ∧ Hold F6 H6 lf (.lst ((left.map fun c => [c]).map wd)) ∧ Hold F6 H6 fd (.lst ((us.map (wordOf A0 stem)).map wd)) ∧ ∃ v5 v7 v8, σ = [some (.ref b), some (.int (n : Nat)), some (.ref lf), some (.ref fd), some (.str (tx stem)), v5, some (.bl A0), v7, v8])
        ⟨[], lets, F4, g15, hb5, Taken.start lets_nodup, rfl, hl4.goB g5 nlb, hf4.goB g5 nfb, _, _, _, rfl⟩ ?_ ?_
      · rintro i σ H6 hi ⟨us, left, F6, g6, hb6, tk, hul, hl6, hf6, v5, v7, v8, rfl⟩
        have hll := tk.len
        have h26 : lets.length = 26 := rfl
        have hl6h := hl6.h
        have hf6h := hf6.h
        have hnl : ((left.map fun c => [c]).map wd).length = left.length := by simp
        lcg_off
        refine take_ok hb6 (by rw [hnl]; omega) (by rw [hnl]; omega) fun q H7 hq g7 hb7 => ?_
        rw [hnl] at hq
        have hl7 := hl6.goB g7 nlb
        have hf7 := hf6.goB g7 nfb
        have hq2 : q < left.length := by omega
        have hqc : left[q]? = some left[q] := List.getElem?_eq_getElem hq2
        generalize left[q] = c at hqc
        have hc : c ∈ lets := tk.la c (List.mem_of_getElem? hqc)
        lcg_off
        refine rd_popAt (y := .str (tx [c])) hl7.h (by rw [List.getElem?_map, List.getElem?_map, hqc]; rfl) (by rw [hnl]; omega) ?_
        rw [erase_map, erase_map]
        have g8 := (g6.trans g7).mut (o := .lst (((left.eraseIdx q).map fun c => [c]).map wd)) hl7.f (.inr nlf)
        have hb8 := hb7.mut (u := .lst (((left.eraseIdx q).map fun c => [c]).map wd)) hl7 nlb
        have hl8 := hl7.put (u := .lst (((left.eraseIdx q).map fun c => [c]).map wd))
        have hf8 := hf7.other (u := .lst (((left.eraseIdx q).map fun c => [c]).map wd)) nlf2.symm
        generalize upd H7 lf (.lst (((left.eraseIdx q).map fun c => [c]).map wd)) = H8 at g8 hb8 hl8 hf8
        have tk8 := tk.pop hqc
        have hf8h := hf8.h
        have hful : ((us.map (wordOf A0 stem)).map wd).length = us.length := by simp
        have fin : ∀ (F9 H9 : Hp) (v : Wd), Grow [] F6 H8 F9 H9 → v = wordOf A0 stem c → ∀ v5 v7 v8, (fun (σ : L2.St) (H6 : Hp) => ∃ (us left : List Nat) (F6 : Hp), Grow [b] F H F6 H6 ∧ Bag3 F6 H6 b ∧ Taken lets us left ∧ us.length = i + 1 ∧ Hold F6 H6 lf (.lst ((left.map fun c => [c]).map wd)) ∧ Hold F6 H6 fd (.lst ((us.map (wordOf A0 stem)).map wd)) ∧ ∃ v5 v7 v8, σ = [some (.ref b), some (.int (n : Nat)), some (.ref lf), some (.ref fd), some (.str (tx stem)), v5, some (.bl A0), v7, v8])
            [some (.ref b), some (.int (n : Nat)), some (.ref lf), some (.ref fd), some (.str (tx stem)), v5, some (.bl A0), v7, v8] (upd H9 fd (.lst ((us.map (wordOf A0 stem)).map wd ++ [.str (tx v)]))) := by
          intro F9 H9 v g9 e v5 v7 v8
          subst e
          have hf9 := hf8.go0 g9
          have hl9 := hl8.go0 g9
          refine ⟨us ++ [c], left.eraseIdx q, F9, (g8.step (S' := []) g9).mut hf9.f (.inr nfd0), (hb8.go0 g9).mut hf9 nfb, tk8, by rw [List.length_append, hul]; rfl, hl9.other nlf2, ?_, v5, v7, v8, rfl⟩
          have e2 : ((us ++ [c]).map (wordOf A0 stem)).map wd = (us.map (wordOf A0 stem)).map wd ++ [.str (tx (wordOf A0 stem c))] := by
            rw [List.map_append, List.map_append]
            rfl
          rw [e2]
          exact hf9.put
        have wl : ∀ w : Wd, w = (if A0 then c :: stem else stem ++ [c]) → wordOf A0 stem c = if w ∈ barred then w ++ [120] else w := by
          intro w e
          subst e
          rfl
        lcg_off
        refine ifB (fun cA => ?_) (fun cA => ?_)
        · lcg_off
          refine newL hb8.fh fun F9 H9 l9 g9 n9 e9 => ?_
          have wl1 := wl ([c] ++ stem) (by rw [cA]; rfl)
          have hf9h := (hf8.go0 g9).h
          lcg_off
          refine rd_inWL (ws := barred) (sqL_of (g9.fh _ _ e9)) ?_
          lcg_off
          refine ifD (fun c2 => ?_) (fun c2 => ?_)
          · rw [if_pos c2] at wl1
            lcg_off
            refine rd_append hf9h (by rw [hful]; exact sz_lt (by omega)) ?_
            lcg_off
            exact fin F9 H9 _ g9 wl1.symm _ _ _
          · rw [if_neg c2] at wl1
            lcg_off
            refine rd_append hf9h (by rw [hful]; exact sz_lt (by omega)) ?_
            lcg_off
            exact fin F9 H9 _ g9 wl1.symm _ _ _
        · lcg_off
          refine newL hb8.fh fun F9 H9 l9 g9 n9 e9 => ?_
          have wl1 := wl (stem ++ [c]) (by rw [cA]; rfl)
          have hf9h := (hf8.go0 g9).h
          lcg_off
          refine rd_inWL (ws := barred) (sqL_of (g9.fh _ _ e9)) ?_
          lcg_off
          refine ifD (fun c2 => ?_) (fun c2 => ?_)
          · rw [if_pos c2] at wl1
            lcg_off
            refine rd_append hf9h (by rw [hful]; exact sz_lt (by omega)) ?_
            lcg_off
            exact fin F9 H9 _ g9 wl1.symm _ _ _
          · rw [if_neg c2] at wl1
            lcg_off
            refine rd_append hf9h (by rw [hful]; exact sz_lt (by omega)) ?_
            lcg_off
            exact fin F9 H9 _ g9 wl1.symm _ _ _
      · rintro σ H6 ⟨us, left, F6, g6, hb6, tk, hul, hl6, hf6, v5, v7, v8, rfl⟩
        lcg_off
        refine k F6 H6 fd _ g6 hb6 nfd0 hf6 (by rw [List.length_map]; exact hul) (fun w hw => ?_) (nodup_mapI wordOf_inj tk.un)
        obtain ⟨c, hc, rfl⟩ := List.mem_map.mp hw
        exact wordOf_field (tk.ua c hc) hsm hsl7
theorem ok_law_titles (T : Txt K mg a) : FnOk P w K mg base CX0 3 a.f_law_titles a.fd_law_titles ["_law_bag_here", "_law_many"]  (sp_law_names isClassB) := by
  refine T.F_law_titles.ok sc_law_titles (fun vs H Q E h => ?_) (fun cdv A outer s H vs Q E hr h => ?_)
  · obtain ⟨_, _, _, rfl, _⟩ := h
    rfl
  · obtain ⟨F, b, n, rfl, hb, hn, k⟩ := h
    refine ⟨_, ((pss_cons (ps_par3 (i := 2) (j := 3) (l := 4) (by rfl) sc_law_titles.nd rfl rfl rfl (by decide) (by decide) (by decide) rfl rfl rfl (pa_cons (pe_callTy (call_listS rfl) (by rfl) T.n_list (by decide +kernel) (pa_cons pe_str pa_nil)) (pa_cons (pe_lst pa_nil) (pa_cons pe_str pa_nil))) (by rfl))
 (pss_cons (ps_for PassesOwn.never rfl (pi_range1 rfl T.n_range (pa_cons (pe_call (ok_law_take T) (hr.mono (by decide)) rfl T.g_law_take T.F_law_take.kp T.b_law_take .nil pass0 (pa_cons (pv 0) (pa_cons pe_int pa_nil))) pa_nil)) (pg_name (i := 5) sc_law_titles.nd rfl (Or.inl rfl))
 (pss_one (ps_set (i := 4) sc_law_titles.nd rfl (Or.inl rfl) (pe_op op_addStr (pv 4) (pe_call (ok_law_of T) hr rfl T.g_law_of T.F_law_of.kp T.b_law_of .nil pass0 (pa_cons (pv 0) (pa_cons (pe_lst (pa_cons pe_str (pa_cons pe_str (pa_cons pe_str (pa_cons pe_str pa_nil))))) pa_nil)))))))
 (pss_cons (ps_set (i := 6) sc_law_titles.nd rfl (Or.inl rfl) (pe_cmpR op_eq (pe_call (ok_law_take T) (hr.mono (by decide)) rfl T.g_law_take T.F_law_take.kp T.b_law_take .nil pass0 (pa_cons (pv 0) (pa_cons pe_int pa_nil))) pe_int (nomark _)))
 (pss_cons (ps_for PassesOwn.never rfl (pi_range1 rfl T.n_range (pa_cons (pv 1) pa_nil)) (pg_name (i := 5) sc_law_titles.nd rfl (Or.inl rfl))
 (pss_cons (ps_set (i := 7) sc_law_titles.nd rfl (Or.inl rfl) (pe_bm PySem.F.plainAttrs_list PySem.F.slot_list_pop PySem.F.type_list_pop mt_popAt (pv 2) (pa_cons (pe_call (ok_law_take T) (hr.mono (by decide)) rfl T.g_law_take T.F_law_take.kp T.b_law_take .nil pass0 (pa_cons (pv 0) (pa_cons (pe_callB call_lenSeq (by rfl) T.n_len (by decide +kernel) (pa_cons (pv 2) pa_nil)) pa_nil))) pa_nil)))
 (pss_one (ps_expr (pe_bm PySem.F.plainAttrs_list PySem.F.slot_list_append PySem.F.type_list_append mt_append (pv 3) (pa_cons (pe_ifExp (pt_val (pv 6)) (pe_op op_addStr (pv 7) (pv 4)) (pe_op op_addStr (pe_op op_addStr pe_str (pv 4)) (pe_lower (pv 7)))) pa_nil))))))
 (pss_one (ps_ret (pv 3)))))))), ?_⟩
    try simp only [cxK, caps_tx, none_tx, l_a, l_z, l_e, l_r, l_Q]
    lcg_off
    refine rd_listS (by decide) fun lf nlf => ?_
    obtain ⟨g1, hb1, hl1⟩ := bag_newO hb (o := .lst ((caps.map fun c => [c]).map wd)) nlf
    generalize upd H lf (.lst ((caps.map fun c => [c]).map wd)) = H1 at g1 hb1 hl1
    have nlb : lf ≠ b := fun z => hb.nn (z ▸ nlf)
    lcg_off
    refine newO hb1.fh fun H2 fd g2 nfd hf2 => ?_
    have hb2 := hb1.go0 g2
    have hl2 := hl1.go0 g2
    have g12 := g1.step (S' := []) g2
    have nfb : fd ≠ b := fun z => hb1.nn (z ▸ nfd)
    have nlf2 : lf ≠ fd := ne_of_none hl1.h nfd
    have nfd0 : H fd = none := g1.free nfd
    lcg_off
    refine take_ok hb2 (by decide) (by decide) fun r H3 hr3 g3 hb3 => ?_
    have hl3 := hl2.goB g3 nlb
    have hf3 := hf2.goB g3 nfb
    have g13 := g12.trans g3
    have hr8 : r < 7 := by omega
    lcg_off
    refine fk_range (fun i σ H4 => ∃ (stem : Wd) (F4 : Hp), Grow [b] F H F4 H4 ∧ Bag3 F4 H4 b ∧ Hold F4 H4 lf (.lst ((caps.map fun c => [c]).map wd)) ∧ Hold F4 H4 fd (.lst []) ∧ stem.length = i ∧ (∀ x ∈ stem, x ∈ lets) ∧ ∃ v5, σ = [some (.ref b), some (.int (n : Nat)), some (.ref lf), some (.ref fd), some (.str (tx stem)), v5, none, none])
      ⟨[], F, g13, hb3, hl3, hf3, rfl, (fun x hx => by cases hx), none, rfl⟩ ?_ ?_
    · rintro i σ H4 hi ⟨stem, F4, g4, hb4, hl4, hf4, hsl, hsm, v5, rfl⟩
      have hi8 : i < 7 := by have : i < ((r : Nat) : Int).toNat := hi; omega
      lcg_off
      refine newL hb4.fh fun F5 H5 l5 g5 n5 e5 => ?_
      have hb5 := hb4.go0 g5
      lcg_off
      refine of_words (ws := [[97], [122], [101], [114]]) hb5 e5 (by decide) (by decide) fun x H6 hx g6 hb6 => ?_
      have hx1 : x.length = 1 ∧ ∀ y ∈ x, y ∈ lets := (by decide : ∀ x ∈ [[97], [122], [101], [114]], x.length = 1 ∧ ∀ y ∈ x, y ∈ lets) x hx
      have hxl := hx1.1
      lcg_off
      refine ⟨stem ++ x, F5, g4.trans (g5.weak.trans g6), hb6, (hl4.go0 g5).goB g6 nlb, (hf4.go0 g5).goB g6 nfb, by rw [List.length_append]; omega, fun y hy => ?_, _, rfl⟩
      rcases List.mem_append.mp hy with hy | hy
      · exact hsm y hy
      · exact hx1.2 y hy
    · rintro σ H4 ⟨stem, F4, g4, hb4, hl4, hf4, hsl, hsm, v5, rfl⟩
      have hsl : stem.length = ((r : Nat) : Int).toNat := hsl
      have hsl7 : stem.length ≤ 6 := by omega
      lcg_off
      refine take_ok hb4 (by decide) (by decide) fun ah H5 hah g5 hb5 => ?_
      have g15 := g4.trans g5
      lcg_off
      generalize hA : decide (V.int (ah : Int) = V.int 0) = A0
      refine fk_range (n := n) (fun i σ H6 => ∃ (us left : List Nat) (F6 : Hp), Grow [b] F H F6 H6 ∧ Bag3 F6 H6 b ∧ Taken caps us left ∧ us.length = i ∧ Hold F6 H6 lf (.lst ((left.map fun c => [c]).map wd)) ∧ Hold F6 H6 fd (.lst ((us.map (titleOf A0 stem)).map wd)) ∧ ∃ v5 v7, σ = [some (.ref b), some (.int (n : Nat)), some (.ref lf), some (.ref fd), some (.str (tx stem)), v5, some (.bl A0), v7])
        ⟨[], caps, F4, g15, hb5, Taken.start caps_nodup, rfl, hl4.goB g5 nlb, hf4.goB g5 nfb, _, _, rfl⟩ ?_ ?_
      · rintro i σ H6 hi ⟨us, left, F6, g6, hb6, tk, hul, hl6, hf6, v5, v7, rfl⟩
        have hll := tk.len
        have h26 : caps.length = 26 := rfl
        have hl6h := hl6.h
        have hf6h := hf6.h
        have hnl : ((left.map fun c => [c]).map wd).length = left.length := by simp
        lcg_off
        refine take_ok hb6 (by rw [hnl]; omega) (by rw [hnl]; omega) fun q H7 hq g7 hb7 => ?_
        rw [hnl] at hq
        have hl7 := hl6.goB g7 nlb
        have hf7 := hf6.goB g7 nfb
        have hq2 : q < left.length := by omega
        have hqc : left[q]? = some left[q] := List.getElem?_eq_getElem hq2
        generalize left[q] = c at hqc
        have hc : c ∈ caps := tk.la c (List.mem_of_getElem? hqc)
        lcg_off
        refine rd_popAt (y := .str (tx [c])) hl7.h (by rw [List.getElem?_map, List.getElem?_map, hqc]; rfl) (by rw [hnl]; omega) ?_
        rw [erase_map, erase_map]
        have g8 := (g6.trans g7).mut (o := .lst (((left.eraseIdx q).map fun c => [c]).map wd)) hl7.f (.inr nlf)
        have hb8 := hb7.mut (u := .lst (((left.eraseIdx q).map fun c => [c]).map wd)) hl7 nlb
        have hl8 := hl7.put (u := .lst (((left.eraseIdx q).map fun c => [c]).map wd))
        have hf8 := hf7.other (u := .lst (((left.eraseIdx q).map fun c => [c]).map wd)) nlf2.symm
        generalize upd H7 lf (.lst (((left.eraseIdx q).map fun c => [c]).map wd)) = H8 at g8 hb8 hl8 hf8
        have tk8 := tk.pop hqc
        have hf8h := hf8.h
        have hful : ((us.map (titleOf A0 stem)).map wd).length = us.length := by simp
        have fin : ∀ (v : Wd), v = titleOf A0 stem c → ∀ v5 v7, (fun (σ : L2.St) (H6 : Hp) => ∃ (us left : List Nat) (F6 : Hp), Grow [b] F H F6 H6 ∧ Bag3 F6 H6 b ∧ Taken caps us left ∧ us.length = i + 1 ∧ Hold F6 H6 lf (.lst ((left.map fun c => [c]).map wd)) ∧ Hold F6 H6 fd (.lst ((us.map (titleOf A0 stem)).map wd)) ∧ ∃ v5 v7, σ = [some (.ref b), some (.int (n : Nat)), some (.ref lf), some (.ref fd), some (.str (tx stem)), v5, some (.bl A0), v7])
            [some (.ref b), some (.int (n : Nat)), some (.ref lf), some (.ref fd), some (.str (tx stem)), v5, some (.bl A0), v7] (upd H8 fd (.lst ((us.map (titleOf A0 stem)).map wd ++ [.str (tx v)]))) := by
          intro v e v5 v7
          subst e
          refine ⟨us ++ [c], left.eraseIdx q, F6, g8.mut hf8.f (.inr nfd0), hb8.mut hf8 nfb, tk8, by rw [List.length_append, hul]; rfl, hl8.other nlf2, ?_, v5, v7, rfl⟩
          have e2 : ((us ++ [c]).map (titleOf A0 stem)).map wd = (us.map (titleOf A0 stem)).map wd ++ [.str (tx (titleOf A0 stem c))] := by
            rw [List.map_append, List.map_append]
            rfl
          rw [e2]
          exact hf8.put
        lcg_off
        refine ifB (fun cA => ?_) (fun cA => ?_)
        · lcg_off
          refine rd_append hf8h (by rw [hful]; exact sz_lt (by omega)) ?_
          lcg_off
          exact fin _ (by rw [cA]; rfl) _ _
        · lcg_off
          refine rd_lower (by with_unfolding_all rfl) (lower_cap c hc) ?_
          lcg_off
          refine rd_append hf8h (by rw [hful]; exact sz_lt (by omega)) ?_
          lcg_off
          exact fin _ (by rw [cA]; rfl) _ _
      · rintro σ H6 ⟨us, left, F6, g6, hb6, tk, hul, hl6, hf6, v5, v7, rfl⟩
        lcg_off
        refine k F6 H6 fd _ g6 hb6 nfd0 hf6 (by rw [List.length_map]; exact hul) (fun w hw => ?_) (nodup_mapI titleOf_inj tk.un)
        obtain ⟨c, hc, rfl⟩ := List.mem_map.mp hw
        exact titleOf_class (tk.ua c hc) hsm hsl7
end
end Lb

/-! What law_makers and law_library draw, plainly. -/
namespace Lb
open PySem L2 Hk
def ways : List Wd := [wCall, wNames, wRenew, wCopy]
/-- the makers behind i ways -/
def mkOne (n : Nat) (w : Wd) : List Wd := [own w] ++ if n = 2 then [other w, deeper w] ++ (if w ∈ [wCall, wNames] then [common w] else []) else []
def mkSt (n : Nat) (i : Nat) : List Wd := [wNamed] ++ (ways.take i).flatMap (mkOne n)
theorem mkSt_all : ∀ n ∈ [1, 2], ∀ hk : Bool, mkSt n 4 ++ [own wBare] ++ (if hk = true then [wHook] else []) = mkFor n hk := by decide +kernel
theorem mk0_all : ∀ hk : Bool, mkFor 0 hk = [wNamed, own wCall, own wNames, own wBare] := by decide +kernel
theorem mkSt_len : ∀ n ∈ [0, 1, 2], ∀ i ∈ [0, 1, 2, 3, 4], (mkSt n i).length ≤ 20 := by decide +kernel
theorem mkSt_succ {n i : Nat} {w : Wd} (h : ways[i]? = some w) : mkSt n (i + 1) = mkSt n i ++ mkOne n w := by
  unfold mkSt
  rw [List.take_add_one, h, List.flatMap_append]
  simp
/-- some of some words are taken -/
structure TakenW (all us left : List Wd) : Prop where
  un : us.Nodup
  ln : left.Nodup
  dis : ∀ c ∈ us, c ∉ left
  ua : ∀ c ∈ us, c ∈ all
  la : ∀ c ∈ left, c ∈ all
  len : us.length + left.length = all.length
theorem TakenW.start {all : List Wd} (h : all.Nodup) : TakenW all [] all := ⟨.nil, h, (fun c hc => by cases hc), (fun c hc => by cases hc), (fun c hc => hc), (by simp)⟩
theorem TakenW.pop {all us left : List Wd} {k : Nat} {c : Wd} (h : TakenW all us left) (hk : left[k]? = some c) : TakenW all (us ++ [c]) (left.eraseIdx k) := by
  obtain ⟨i1, i2⟩ := List.getElem?_eq_some_iff.mp hk
  have hc : c ∈ left := List.mem_of_getElem? hk
  have e : left = left.take k ++ c :: left.drop (k + 1) := by
    conv => lhs; rw [← List.take_append_drop k left]
    rw [List.drop_eq_getElem_cons i1, i2]
  have e2 : left.eraseIdx k = left.take k ++ left.drop (k + 1) := List.eraseIdx_eq_take_drop_succ ..
  have hn := h.ln
  rw [e] at hn
  obtain ⟨n1, n2, n3⟩ := List.nodup_append.mp hn
  obtain ⟨n4, n5⟩ := List.nodup_cons.mp n2
  have hsub : ∀ x ∈ left.eraseIdx k, x ∈ left := fun x hx => List.mem_of_mem_eraseIdx hx
  refine ⟨?_, ?_, fun x hx => ?_, fun x hx => ?_, fun x hx => h.la x (hsub x hx), ?_⟩
  · refine List.nodup_append.mpr ⟨h.un, by simp, fun x hx y hy => ?_⟩
    rw [List.mem_singleton.mp hy]
    exact fun z => h.dis x hx (z ▸ hc)
  · rw [e2]
    refine List.nodup_append.mpr ⟨n1, n5, fun x hx y hy => n3 x hx y (List.mem_cons_of_mem _ hy)⟩
  · rcases List.mem_append.mp hx with hx | hx
    · exact fun z => h.dis x hx (hsub x z)
    · rw [List.mem_singleton.mp hx, e2]
      intro z
      rcases List.mem_append.mp z with z | z
      · exact n3 c z c (List.mem_cons_self ..) rfl
      · exact n4 z
  · rcases List.mem_append.mp hx with hx | hx
    · exact h.ua x hx
    · rw [List.mem_singleton.mp hx]; exact h.la c hc
  · have := h.len
    rw [List.length_append, List.length_singleton, List.length_eraseIdx_of_lt i1]
    omega
def wZero' : Wd := [122, 101, 114, 111]
/-- (p + "q")[-8:] -/
def askQ (p : Wd) : Wd := (p ++ [113]).drop ((p ++ [113]).length - 8)
def asks (p : Wd) : List Wd := [wZero', wBy, askQ p]
theorem askQ_eq {p : Wd} (h : isFieldB p = true) : ∃ r, askQ p = r ++ [113] ∧ isWordB (askQ p) = true := by
  have hl := isWordB_len (isFieldB_word h)
  have hm : ∀ c ∈ p, c ∈ lets := by
    have := isFieldB_word h
    unfold isWordB at this
    rw [Bool.and_eq_true, List.all_eq_true] at this
    exact fun c hc => of_decide_eq_true (this.2 c hc)
  have h1 : 1 ≤ p.length := by
    have := isFieldB_word h
    unfold isWordB at this
    rw [Bool.and_eq_true, decide_eq_true_iff] at this
    exact this.1.1
  have e : askQ p = p.drop ((p ++ [113]).length - 8) ++ [113] := by
    unfold askQ
    rw [List.drop_append_of_le_length (by first | (simp; done) | (simp; omega))]
  refine ⟨_, e, ?_⟩
  rw [e]
  unfold isWordB
  have el : (p.drop ((p ++ [113]).length - 8) ++ [113]).length = p.length - (p.length + 1 - 8) + 1 := by simp
  rw [decide_eq_true (by rw [el]; omega), Bool.true_and, List.all_eq_true]
  intro c hc
  refine decide_eq_true ?_
  rcases List.mem_append.mp hc with hc | hc
  · exact hm c (List.mem_of_mem_drop hc)
  · rw [List.mem_singleton.mp hc]; decide
theorem ends_q {r w : Wd} (h : r ++ [113] = w) : w.getLast? = some 113 := by rw [← h]; simp
theorem askQ_ne {p : Wd} (h : isFieldB p = true) : askQ p ∉ binS ∧ askQ p ∉ unS ∧ askQ p ≠ wZero' ∧ askQ p ≠ wBy := by
  obtain ⟨r, e, _⟩ := askQ_eq h
  have hq : (askQ p).getLast? = some 113 := ends_q e.symm
  refine ⟨fun z => ?_, fun z => ?_, fun z => ?_, fun z => ?_⟩
  · exact absurd hq ((by decide : ∀ w ∈ binS, ¬ w.getLast? = some 113) _ z)
  · exact absurd hq ((by decide : ∀ w ∈ unS, ¬ w.getLast? = some 113) _ z)
  · rw [z] at hq; exact absurd hq (by decide)
  · rw [z] at hq; exact absurd hq (by decide)
def allSg (p : Wd) : List Wd := binS ++ unS ++ asks p
theorem allSg_nodup {p : Wd} (h : isFieldB p = true) : (allSg p).Nodup := by
  obtain ⟨h1, h2, h3, h4⟩ := askQ_ne h
  have e : allSg p = (binS ++ unS ++ [wZero', wBy]) ++ [askQ p] := by unfold allSg asks; simp
  rw [e]
  refine List.nodup_append.mpr ⟨by decide, by simp, fun x hx y hy => ?_⟩
  rw [List.mem_singleton.mp hy]
  intro z
  subst z
  rcases List.mem_append.mp hx with hx | hx
  · rcases List.mem_append.mp hx with hx | hx
    · exact h1 hx
    · exact h2 hx
  · simp only [List.mem_cons, List.not_mem_nil, or_false] at hx
    exact hx.elim h3 h4
theorem asks_word {p s : Wd} (h : isFieldB p = true) (hs : s ∈ asks p) : isWordB s = true ∧ s ∉ unS ∧ s ∉ binS := by
  obtain ⟨h1, h2, h3, h4⟩ := askQ_ne h
  obtain ⟨_, _, h5⟩ := askQ_eq h
  unfold asks at hs
  simp only [List.mem_cons, List.not_mem_nil, or_false] at hs
  rcases hs with rfl | rfl | rfl
  · decide
  · decide
  · exact ⟨h5, h2, h1⟩
/-- the arity that law_library gives -/
theorem ar_of {p s : Wd} (h : isFieldB p = true) (hs : s ∈ allSg p) : arityN s = if s ∈ asks p then 0 else if s ∈ unS then 1 else 2 := by
  unfold arityN
  by_cases ha : s ∈ asks p
  · obtain ⟨_, h2, h3⟩ := asks_word h ha
    rw [if_pos ha, if_neg h3, if_neg h2]
  · rw [if_neg ha]
    have hs' : s ∈ binS ++ unS := by
      rcases List.mem_append.mp hs with hs | hs
      · exact hs
      · exact absurd hs ha
    by_cases hu : s ∈ unS
    · have : s ∉ binS := fun z => absurd hu ((by decide : ∀ w ∈ binS, w ∉ unS) s z)
      rw [if_pos hu, if_neg this, if_pos hu]
    · have hb : s ∈ binS := (List.mem_append.mp hs').resolve_right hu
      rw [if_pos hb, if_neg hu]
theorem sub_filter : ∀ {xs ys : List Wd}, xs.Sublist ys → ys.Nodup → xs = ys.filter fun p => decide (p ∈ xs)
  | _, _, .slnil, _ => rfl
  | xs, _, .cons y (l₂ := ys) h, hn => by
    obtain ⟨h1, h2⟩ := List.nodup_cons.mp hn
    have ih := sub_filter h h2
    have hy : y ∉ xs := fun z => h1 (h.subset z)
    rw [List.filter_cons, if_neg (by simpa using hy)]
    exact ih
  | _, _, .cons₂ y (l₁ := xs) (l₂ := ys) h, hn => by
    obtain ⟨h1, h2⟩ := List.nodup_cons.mp hn
    have ih := sub_filter h h2
    rw [List.filter_cons, if_pos (by simp)]
    congr 1
    refine ih.trans (List.filter_congr fun z hz => ?_)
    have : z ≠ y := fun e => h1 (e ▸ hz)
    simp [this]
end Lb

namespace Lb
open PySem L2 Hk
theorem m_named : Str.ofString "named" = tx (wNamed) := by decide +kernel
theorem m_callO : Str.ofString "call own" = tx (own wCall) := by decide +kernel
theorem m_namesO : Str.ofString "names own" = tx (own wNames) := by decide +kernel
theorem m_bareO : Str.ofString "bare own" = tx (own wBare) := by decide +kernel
theorem m_call : Str.ofString "call" = tx (wCall) := by decide +kernel
theorem m_names : Str.ofString "names" = tx (wNames) := by decide +kernel
theorem m_renew : Str.ofString "renew" = tx (wRenew) := by decide +kernel
theorem m_copy : Str.ofString "copy" = tx (wCopy) := by decide +kernel
theorem m_zero : Str.ofString "zero" = tx (wZero') := by decide +kernel
theorem m_sown : Str.ofString " own" = tx ([32, 111, 119, 110]) := by decide +kernel
theorem m_sother : Str.ofString " other" = tx ([32, 111, 116, 104, 101, 114]) := by decide +kernel
theorem m_sdeeper : Str.ofString " deeper" = tx ([32, 100, 101, 101, 112, 101, 114]) := by decide +kernel
theorem m_scommon : Str.ofString " common" = tx ([32, 99, 111, 109, 109, 111, 110]) := by decide +kernel
theorem g_p1 : Str.ofString "+" = tx ([43]) := by decide +kernel
theorem g_p2 : Str.ofString "-" = tx ([45]) := by decide +kernel
theorem g_p3 : Str.ofString "*" = tx ([42]) := by decide +kernel
theorem g_p4 : Str.ofString "//" = tx ([47, 47]) := by decide +kernel
theorem g_p5 : Str.ofString "&" = tx ([38]) := by decide +kernel
theorem g_p6 : Str.ofString "|" = tx ([124]) := by decide +kernel
theorem g_p7 : Str.ofString "^" = tx ([94]) := by decide +kernel
theorem g_p8 : Str.ofString "<<" = tx ([60, 60]) := by decide +kernel
theorem g_p9 : Str.ofString ">>" = tx ([62, 62]) := by decide +kernel
theorem g_u1 : Str.ofString "neg" = tx ([110, 101, 103]) := by decide +kernel
theorem g_u2 : Str.ofString "pos" = tx ([112, 111, 115]) := by decide +kernel
theorem g_u3 : Str.ofString "abs" = tx ([97, 98, 115]) := by decide +kernel
theorem g_u4 : Str.ofString "invert" = tx ([105, 110, 118, 101, 114, 116]) := by decide +kernel
theorem g_q : Str.ofString "q" = tx ([113]) := by decide +kernel
local macro_rules | `(tactic| array_mem_dec) => `(tactic| with_reducible first
  | assumption | exact upd_same
  | (apply upd_new; assumption; array_mem_dec)
  | (apply upd_old; tlg_ne; array_mem_dec)
  | (apply same_at; assumption; array_mem_dec))
local macro_rules | `(tactic| tlg_ne) => `(tactic| with_reducible first
  | assumption | (apply Ne.symm; assumption)
  | (apply ne_new; assumption; array_mem_dec) | (apply ne_new'; assumption; array_mem_dec)
  | (apply ne_of; assumption; assumption; (with_unfolding_all (intro z; cases z; done))))
local macro_rules | `(tactic| decreasing_trivial_pre_omega) => `(tactic| with_reducible first
  | assumption | (apply sqL_of; array_mem_dec) | (apply sqT_of; array_mem_dec)
  | (apply Same.seq; assumption; decreasing_trivial_pre_omega) | (apply sqT_same; assumption; decreasing_trivial_pre_omega)
  | (apply sqL_new; assumption; decreasing_trivial_pre_omega) | (apply sqL_upd; tlg_ne; decreasing_trivial_pre_omega))
local macro_rules | `(tactic| kpt_turns) => `(tactic| with_reducible first
  | assumption | exact Same.refl _ | (apply same_ext; kpt_turns; assumption) | (apply same_mut; kpt_turns; keq_hits) | (apply same_step; assumption; kpt_turns))
local macro_rules | `(tactic| keq_hits) => `(tactic| with_reducible first | assumption | (apply same_none; assumption; keq_hits))
local macro_rules | `(tactic| sizeOf_list_dec) => `(tactic| first | (with_reducible assumption) | (with_reducible_and_instances omega) | (with_unfolding_all decide))
local macro_rules | `(tactic| array_get_dec) => `(tactic| first | (with_reducible assumption) | (apply sz_of; (with_unfolding_all simp); done) | (apply sz_of; omega) | (apply sz_lt; (with_unfolding_all simp); done) | (apply sz_lt; omega))
local macro_rules | `(tactic| keq_rows) => `(tactic| with_reducible first
  | apply rd_asgN | apply rd_seq | apply rd_parA | apply rd_par3A | apply rd_par2 | apply rd_par3 | apply rd_m1 | apply rd_isStr | apply rd_cval | apply rd_asg | apply rd_gname | apply rd_op | (show tVar _ _ _ _; refine rd_var (by with_unfolding_all rfl) ?_) | apply rd_c | apply rd_I0
  | apply rd_cons | apply rd_nil | apply rd_cb | apply rd_test | apply rd_bl | apply rd_fld | apply rd_drop | apply rd_ret | apply rd_retN | apply rd_next
  | apply rd_ifS | apply rd_un | apply rd_B | apply rd_and | apply rd_or | apply rd_not | apply rd_andV | apply rd_orV | apply rd_notV | apply rd_if
  | apply rd_int | apply rd_abs | apply rd_max | apply rd_min | apply rd_strS | apply rd_U
  | apply rd_eqTx | apply rd_neTx | apply rd_inTx | apply rd_notInTx | apply rd_fmt | (show FmtK (.str (tx _)) _ _; refine rd_fmtT (by omega) ?_) | apply rd_jsC | apply rd_jsN | (show JsK _ (tx _) _ (.str (tx _)) _ _; refine rd_JsK (by first | omega | (simp; done) | (simp; omega)) ?_) | (show rAddStr (.str (tx _)) (.str (tx _)) _ _; refine rd_addT (by first | omega | (simp; done) | (simp; omega)) ?_) | (show rLenStr [.str (tx _)] _ _; refine rd_lenTx (by omega) ?_)
  | (show rEq _ _ _ _; refine rd_eq (by with_unfolding_all rfl) ?_) | (show rNe _ _ _ _; refine rd_ne (by with_unfolding_all rfl) ?_) | apply rd_isNone | apply rd_notNone
  | (show rIxL _ _ _ _ _; refine rd_ixL (by decreasing_trivial_pre_omega) (by with_unfolding_all rfl) ?_) | (show rIxT _ _ _ _ _; refine rd_ixT (by decreasing_trivial_pre_omega) (by with_unfolding_all rfl) ?_)
  | (show rLenSeq _ _ _ _; refine rd_lenL (by decreasing_trivial_pre_omega) ?_) | (show rLenSeq _ _ _ _; refine rd_lenT (by decreasing_trivial_pre_omega) ?_)
  | (show rI _ _ _ _ _ _; refine rd_mod (by sizeOf_list_dec) ?_) | (show rI _ _ _ _ _ _; refine rd_div (by sizeOf_list_dec) (by sizeOf_list_dec) ?_) | (show rI _ _ _ _ _ _; refine rd_mulR (by sizeOf_list_dec) (by sizeOf_list_dec) ?_) | (show rI _ _ _ _ _ _; refine rd_mulL (by sizeOf_list_dec) (by sizeOf_list_dec) ?_) | (show rI _ _ _ _ _ _; refine rd_pow (by sizeOf_list_dec) ?_)
  | (show rSetL _ _ _ _ _; refine rd_setL (by array_mem_dec) (by with_unfolding_all rfl) ?_)
  | apply rd_inSign | apply rd_notInSign | apply rd_tupK | apply rd_lstK | apply rd_sl | apply rd_noPart | apply rd_part | apply rd_isInt
  | apply rd_gsub | apply rd_gcons | apply rd_gnil | apply rd_call | apply rd_meth | apply rd_make | apply rd_smeth | apply rd_isC | apply rd_smethK | apply rd_cmeth | apply rd_cmethK
  | apply rd_bm | apply rd_bm0 | (show BmK _ _ _ _ _ _ _ _; refine rd_bmL (by array_mem_dec) ?_) | (show Bm0K _ _ _ _ _ _; refine rd_bm0L (by array_mem_dec) ?_) | apply rd_sfld | apply rd_aug | apply rd_rAdd | apply rd_brk | apply rd_cont
  | apply rd_for | apply rd_iList | (show IList _ _ _ _; refine rd_IList (by decreasing_trivial_pre_omega) ?_) | apply rd_iTup | (show ITup _ _ _ _; refine rd_ITup (by decreasing_trivial_pre_omega) ?_) | apply rd_iEnum | (show IEnum _ _ _ _; refine rd_IEnum (by decreasing_trivial_pre_omega) ?_) | apply rd_iRng1 | (show IRng1 _ _ _; refine rd_IRng1 (by sizeOf_list_dec) (by sizeOf_list_dec) ?_)
  | (show rLenStr _ _ _; refine rd_lenS (by array_get_dec) ?_) | (show rAddStr _ _ _ _; refine rd_addS (by array_get_dec) ?_) | (show rSlS _ _ _ _ _; refine rd_slS (by array_get_dec) ?_) | apply rd_lc | apply rd_yes | (show gTup _ _ _ _ _ _ _; refine rd_gtup (by decreasing_trivial_pre_omega) (by with_unfolding_all rfl) ?_) | (show tMakeL _ _ _ _ _ _ _ _; refine rd_makeL (by with_unfolding_all rfl) ?_))
local macro_rules | `(tactic| kas_types) => `(tactic| with_reducible first | apply rd_isi_int_int | apply rd_isi_int_bool | apply rd_isi_int_str | apply rd_isi_int_list | apply rd_isi_int_tuple | apply rd_isi_bool_int | apply rd_isi_bool_bool | apply rd_isi_bool_str | apply rd_isi_bool_list | apply rd_isi_bool_tuple | apply rd_isi_str_int | apply rd_isi_str_bool | apply rd_isi_str_str | apply rd_isi_str_list | apply rd_isi_str_tuple | (show rIsi _ _ _ _; refine rd_isi_list_int (by array_mem_dec) ?_) | (show rIsi _ _ _ _; refine rd_isi_list_bool (by array_mem_dec) ?_) | (show rIsi _ _ _ _; refine rd_isi_list_str (by array_mem_dec) ?_) | (show rIsi _ _ _ _; refine rd_isi_list_list (by array_mem_dec) ?_) | (show rIsi _ _ _ _; refine rd_isi_list_tuple (by array_mem_dec) ?_) | (show rIsi _ _ _ _; refine rd_isi_tuple_int (by array_mem_dec) ?_) | (show rIsi _ _ _ _; refine rd_isi_tuple_bool (by array_mem_dec) ?_) | (show rIsi _ _ _ _; refine rd_isi_tuple_str (by array_mem_dec) ?_) | (show rIsi _ _ _ _; refine rd_isi_tuple_list (by array_mem_dec) ?_) | (show rIsi _ _ _ _; refine rd_isi_tuple_tuple (by array_mem_dec) ?_) | apply rd_isi_NoneType_int | apply rd_isi_NoneType_bool | apply rd_isi_NoneType_str | apply rd_isi_NoneType_list | apply rd_isi_NoneType_tuple)
local macro_rules | `(tactic| lcg_src) => `(tactic| repeat keq_rows)

local macro_rules | `(tactic| lcg_sub) => `(tactic| with_reducible first | apply rd_chain | apply rd_revL)
local macro_rules | `(tactic| lcg_off) => `(tactic| repeat (first | keq_rows | lcg_sub))
section
variable {P : Program} {w : World} {K : PySem.W.Frag} {mg : Str → Option Value} {base : Heap} {a : Ad}
theorem way_len : ∀ w ∈ ways, w.length ≤ 5 := by decide
def sp_law_makers (K : PySem.W.Frag) : Sp := fun vs H Q _ => ∃ (F : Hp) (n : Nat) (o : Option Wd), vs = [.int (n : Nat), hookV o] ∧ n ≤ 2 ∧ Same F H ∧ ∀ F' H' p, Grow [] F H F' H' → H p = none → F' p = some (.lst ((mkFor n o.isSome).map wd)) → Q (.ref p) H'
theorem ok_law_makers (T : Txt K mg a) : FnOk P w K mg base CX0 1 a.f_law_makers a.fd_law_makers ["_law_arity", "_law_hooked"]  (sp_law_makers K) := by
  refine T.F_law_makers.ok sc_law_makers (fun vs H Q E h => ?_) (fun cdv A outer s H vs Q E hr h => ?_)
  · obtain ⟨_, _, _, rfl, _⟩ := h
    rfl
  · obtain ⟨F, n, o, rfl, hn, fh, k⟩ := h
    refine ⟨_, ((pss_cons (ps_if (pt_cmpR op_eq (pv 0) pe_int (nomark _))
 (pss_one (ps_ret (pe_lst (pa_cons pe_str (pa_cons pe_str (pa_cons pe_str (pa_cons pe_str pa_nil)))))))
 pss_nil)
 (pss_cons (ps_set (i := 2) sc_law_makers.nd rfl (Or.inl rfl) (pe_lst (pa_cons pe_str pa_nil)))
 (pss_cons (ps_for PassesOwn.never rfl (pi_list (pe_lst (pa_cons pe_str (pa_cons pe_str (pa_cons pe_str (pa_cons pe_str pa_nil)))))) (pg_name (i := 3) sc_law_makers.nd rfl (Or.inl rfl))
 (pss_cons (ps_expr (pe_bm PySem.F.plainAttrs_list PySem.F.slot_list_append PySem.F.type_list_append mt_append (pv 2) (pa_cons (pe_op op_addStr (pv 3) pe_str) pa_nil)))
 (pss_one (ps_if (pt_cmpR op_eq (pv 0) pe_int (nomark _))
 (pss_cons (ps_set (i := 2) sc_law_makers.nd rfl (Or.inl rfl) (pe_op op_cat (pv 2) (pe_lst (pa_cons (pe_op op_addStr (pv 3) pe_str) (pa_cons (pe_op op_addStr (pv 3) pe_str) pa_nil)))))
 (pss_one (ps_if (pt_cmpR op_in_seq (pv 3) (pe_lst (pa_cons pe_str (pa_cons pe_str pa_nil))) (by rfl))
 (pss_one (ps_expr (pe_bm PySem.F.plainAttrs_list PySem.F.slot_list_append PySem.F.type_list_append mt_append (pv 2) (pa_cons (pe_op op_addStr (pv 3) pe_str) pa_nil))))
 pss_nil)))
 pss_nil))))
 (pss_one (ps_ret (pe_op op_cat (pe_op op_cat (pv 2) (pe_lst (pa_cons pe_str pa_nil))) (pe_ifExp (pt_cmpR op_isNone (pv 1) pe_non (nomark _)) (pe_lst pa_nil) (pe_lst (pa_cons pe_str pa_nil)))))))))), ?_⟩
    try simp only [cxK, m_named, m_callO, m_namesO, m_bareO, m_call, m_names, m_renew, m_copy, m_sown, m_sother, m_sdeeper, m_scommon, hook_tx]
    lcg_off
    refine ifD (fun c0 => ?_) (fun c0 => ?_)
    · have e0 : n = 0 := by have := V.int.inj c0; omega
      subst e0
      lcg_off
      refine newL fh fun F1 H1 l1 g1 n1 e1 => ?_
      exact k F1 H1 l1 g1 n1 (by rw [mk0_all]; exact e1)
    have hn12 : n ∈ [1, 2] := by
      have : n ≠ 0 := fun z => c0 (by rw [z]; rfl)
      have : n = 1 ∨ n = 2 := by omega
      simpa using this
    lcg_off
    refine newO fh fun H1 fd g1 n1 h1 => ?_
    lcg_off
    refine newL g1.fh fun F2 H2 wl g2 n2 e2 => ?_
    have g12 := g1.trans g2
    lcg_off
    refine rd_IList (sqL_of (g2.fh _ _ e2)) ?_
    refine fk_list (xs := ways.map wd) (fun i σ H3 => ∃ F3 fd, Grow [] F H F3 H3 ∧ H fd = none ∧ F3 wl = some (.lst (ways.map wd)) ∧ Hold F3 H3 fd (.lst ((mkSt n i).map wd)) ∧ ∃ v3, σ = [some (.int (n : Nat)), some (hookV o), some (.ref fd), v3]) ⟨F2, fd, g12, n1, e2, h1.go0 g2, none, rfl⟩ (fun i σ H3 _ ⟨F3, _, g3, _, e3, _⟩ => sqL_of (g3.fh _ _ e3)) ?_ ?_
    · rintro i x σ H3 hx ⟨F3, fd, g3, nfd, e3, h3, v3, rfl⟩
      rw [List.getElem?_map] at hx
      cases hw : ways[i]? with
      | none => rw [hw] at hx; cases hx
      | some w =>
        rw [hw] at hx
        obtain rfl : V.str (tx w) = x := Option.some.inj hx
        have hwl := way_len w (List.mem_of_getElem? hw)
        have hi4 : i < 4 := (List.getElem?_eq_some_iff.mp hw).1
        have hi5 : i ∈ [0, 1, 2, 3, 4] := by
          have : i = 0 ∨ i = 1 ∨ i = 2 ∨ i = 3 ∨ i = 4 := by omega
          simpa using this
        have hml := mkSt_len n (List.mem_cons_of_mem _ hn12) i hi5
        have hs := mkSt_succ (n := n) hw
        have h3h := h3.h
        lcg_off
        refine rd_append h3.h (by rw [List.length_map]; exact sz_lt (by omega)) ?_
        have h4 := h3.put (u := .lst ((mkSt n i).map wd ++ [.str (tx (w ++ [32, 111, 119, 110]))]))
        have g4 := g3.mut (o := .lst ((mkSt n i).map wd ++ [.str (tx (w ++ [32, 111, 119, 110]))])) h3.f (.inr nfd)
        have e4 : upd H3 fd (.lst ((mkSt n i).map wd ++ [.str (tx (w ++ [32, 111, 119, 110]))])) = upd H3 fd (.lst ((mkSt n i).map wd ++ [.str (tx (w ++ [32, 111, 119, 110]))])) := rfl
        generalize hH4 : upd H3 fd (.lst ((mkSt n i).map wd ++ [.str (tx (w ++ [32, 111, 119, 110]))])) = H4 at g4 h4
        clear e4
        lcg_off
        refine ifD (fun c2 => ?_) (fun c2 => ?_)
        · have c2' : n = 2 := by have := V.int.inj c2; omega
          lcg_off
          refine newL g4.fh fun F5 H5 l5 g5 n5 e5 => ?_
          have h5 := h4.go0 g5
          have g35 := g4.trans g5
          refine rd_cat h5.h (g5.fh _ _ e5) (by simp; omega) fun f6 n6 => ?_
          have g6 := g35.newO (o := .lst ((mkSt n i).map wd ++ [.str (tx (w ++ [32, 111, 119, 110]))] ++ [.str (tx (w ++ [32, 111, 116, 104, 101, 114])), .str (tx (w ++ [32, 100, 101, 101, 112, 101, 114]))])) n6
          have h6 := Hold.new (o := .lst ((mkSt n i).map wd ++ [.str (tx (w ++ [32, 111, 119, 110]))] ++ [.str (tx (w ++ [32, 111, 116, 104, 101, 114])), .str (tx (w ++ [32, 100, 101, 101, 112, 101, 114]))])) g35.fh n6
          have nf6 : H f6 = none := g35.free n6
          have e36 := g5.ff _ _ e3
          generalize hH6 : upd H5 f6 (.lst ((mkSt n i).map wd ++ [.str (tx (w ++ [32, 111, 119, 110]))] ++ [.str (tx (w ++ [32, 111, 116, 104, 101, 114])), .str (tx (w ++ [32, 100, 101, 101, 112, 101, 114]))])) = H6 at g6 h6
          have h6h := h6.h
          lcg_off
          refine newL g6.fh fun F7 H7 l7 g7 n7 e7 => ?_
          have h7 := h6.go0 g7
          have h7h := h7.h
          refine rd_inWL (ws := [wCall, wNames]) (sqL_of (g7.fh _ _ e7)) ?_
          lcg_off
          refine ifD (fun c3 => ?_) (fun c3 => ?_)
          · lcg_off
            refine rd_append h7.h (by simp; exact sz_lt (by omega)) ?_
            lcg_off
            refine ⟨F7, f6, (g6.trans g7).mut h7.f (.inr nf6), nf6, g7.ff _ _ e36, ?_, _, rfl⟩
            have e : (mkSt n (i + 1)).map wd = (mkSt n i).map wd ++ [.str (tx (w ++ [32, 111, 119, 110]))] ++ [.str (tx (w ++ [32, 111, 116, 104, 101, 114])), .str (tx (w ++ [32, 100, 101, 101, 112, 101, 114]))] ++ [.str (tx (w ++ [32, 99, 111, 109, 109, 111, 110]))] := by
              rw [hs]
              unfold mkOne
              rw [if_pos c2', if_pos c3]
              simp [wd, own, other, deeper, common]
            rw [e]
            exact h7.put
          · lcg_off
            refine ⟨F7, f6, g6.trans g7, nf6, g7.ff _ _ e36, ?_, _, rfl⟩
            have e : (mkSt n (i + 1)).map wd = (mkSt n i).map wd ++ [.str (tx (w ++ [32, 111, 119, 110]))] ++ [.str (tx (w ++ [32, 111, 116, 104, 101, 114])), .str (tx (w ++ [32, 100, 101, 101, 112, 101, 114]))] := by
              rw [hs]
              unfold mkOne
              rw [if_pos c2', if_neg c3]
              simp [wd, own, other, deeper]
            rw [e]
            exact h7
        · have c2' : n ≠ 2 := fun z => c2 (by rw [z]; rfl)
          lcg_off
          refine ⟨F3, fd, g4, nfd, e3, ?_, _, rfl⟩
          have e : (mkSt n (i + 1)).map wd = (mkSt n i).map wd ++ [.str (tx (w ++ [32, 111, 119, 110]))] := by
            rw [hs]
            unfold mkOne
            rw [if_neg c2']
            simp [wd, own]
          rw [e]
          exact h4
    · rintro σ H3 ⟨F3, fd, g3, nfd, e3, h3, v3, rfl⟩
      have h3 : Hold F3 H3 fd (.lst ((mkSt n 4).map wd)) := h3
      have hml := mkSt_len n (List.mem_cons_of_mem _ hn12) 4 (by simp)
      lcg_off
      refine newL g3.fh fun F4 H4 l4 g4 n4 e4 => ?_
      have h4 := h3.go0 g4
      refine new_cat g4.fh h4.h (g4.fh _ _ e4) (by simp; omega) fun F5 H5 l5 g5 n5 e5 => ?_
      have g35 := g3.trans (g4.trans g5)
      lcg_off
      cases o with
      | none =>
        refine ifD (fun _ => ?_) (fun z => absurd rfl z)
        lcg_off
        refine newL g5.fh fun F6 H6 l6 g6 n6 e6 => ?_
        refine new_cat g6.fh (g6.fh _ _ (g6.ff _ _ e5)) (g6.fh _ _ e6) (by simp; omega) fun F7 H7 l7 g7 n7 e7 => ?_
        have gz := g35.trans (g6.trans g7)
        refine k F7 H7 l7 gz ((g35.trans g6).free n7) ?_
        rw [e7]
        show some (HO.lst ((mkSt n 4).map wd ++ [V.str (tx (own wBare))] ++ [])) = some (HO.lst ((mkFor n false).map wd))
        rw [← mkSt_all n hn12 false]
        simp [wd]
      | some hk =>
        refine ifD (fun z => by cases z) (fun _ => ?_)
        lcg_off
        refine newL g5.fh fun F6 H6 l6 g6 n6 e6 => ?_
        refine new_cat g6.fh (g6.fh _ _ (g6.ff _ _ e5)) (g6.fh _ _ e6) (by simp; omega) fun F7 H7 l7 g7 n7 e7 => ?_
        have gz := g35.trans (g6.trans g7)
        refine k F7 H7 l7 gz ((g35.trans g6).free n7) ?_
        rw [e7]
        show some (HO.lst ((mkSt n 4).map wd ++ [V.str (tx (own wBare))] ++ [V.str (tx wHook)])) = some (HO.lst ((mkFor n true).map wd))
        rw [← mkSt_all n hn12 true]
        simp [wd]
end
end Lb

namespace Lb
open PySem L2 Hk
theorem pe_bm0K {X : Cx} {K : PySem.W.Frag} {T : String} {name : Str} {id : String} {r : V → List V → Hp → VK → Prop} {o : Expr} {to : TE} {apos cpos : Pos} (pa : PlainAttrs T) (slot : Slot T name id) (hty : typeOf (.builtin id) = pure (.type "method_descriptor")) (hm : MtR X id r) (ho : PE X o to) (h : X.K = K := by rfl)
    (hbase : attributeBase o name X.env (eval o X.env) = eval o X.env := by rfl) (hline : (apos.endLine == cpos.line) = true := by rfl) : PE X (.Call (.Attribute o name apos) [] [] cpos) (tBM0 K T r to) := h ▸ pe_bm0 pa slot hty hm ho hbase hline
theorem bag_frz {F H : Hp} {b D : Addr} {o : HO} (hb : Bag3 F H b) (h : H D = some o) (n : D ≠ b) : Bag3 (upd F D o) H b := by
  obtain ⟨d, m, c, c0, c1, e⟩ := hb.hb
  refine ⟨fun p u z => ?_, upd_oldN n.symm hb.fb, d, m, c, c0, c1, e⟩
  by_cases q : p = D
  · subst q; rw [upd_same] at z; rw [← z]; exact h
  · rw [upd_ne q] at z; exact hb.fh _ _ z
/-- three lists of one's own beside the bag -/
structure LS3 (F0 H0 F H : Hp) (b a1 a2 a3 : Addr) (x1 x2 x3 : List V) : Prop where
  g : Grow [b] F0 H0 F H
  hb : Bag3 F H b
  h1 : Hold F H a1 (.lst x1)
  h2 : Hold F H a2 (.lst x2)
  h3 : Hold F H a3 (.lst x3)
  n1 : H0 a1 = none
  n2 : H0 a2 = none
  n3 : H0 a3 = none
  b1 : a1 ≠ b
  b2 : a2 ≠ b
  b3 : a3 ≠ b
  d12 : a1 ≠ a2
  d13 : a1 ≠ a3
  d23 : a2 ≠ a3
section
variable {F0 H0 F H F' H' : Hp} {b a1 a2 a3 : Addr} {x1 x2 x3 ys : List V}
theorem LS3.go (h : LS3 F0 H0 F H b a1 a2 a3 x1 x2 x3) (g : Grow [] F H F' H') : LS3 F0 H0 F' H' b a1 a2 a3 x1 x2 x3 :=
  ⟨h.g.step (S' := []) g, h.hb.go0 g, h.h1.go0 g, h.h2.go0 g, h.h3.go0 g, h.n1, h.n2, h.n3, h.b1, h.b2, h.b3, h.d12, h.d13, h.d23⟩
theorem LS3.goB (h : LS3 F0 H0 F H b a1 a2 a3 x1 x2 x3) (g : Grow [b] F H F' H') (hb : Bag3 F' H' b) : LS3 F0 H0 F' H' b a1 a2 a3 x1 x2 x3 :=
  ⟨h.g.trans g, hb, h.h1.goB g h.b1, h.h2.goB g h.b2, h.h3.goB g h.b3, h.n1, h.n2, h.n3, h.b1, h.b2, h.b3, h.d12, h.d13, h.d23⟩
theorem LS3.frz2 (h : LS3 F0 H0 F H b a1 a2 a3 x1 x2 x3) {a4 : Addr} {x4 : List V} (h4 : Hold F H a4 (.lst x4)) (n4 : H0 a4 = none) (b4 : a4 ≠ b) (d1 : a1 ≠ a4) (d3 : a3 ≠ a4) : LS3 F0 H0 (upd F a2 (.lst x2)) H b a1 a3 a4 x1 x3 x4 ∨ a2 = a4 := by
  by_cases e : a2 = a4
  · exact .inr e
  · exact .inl ⟨h.g.frz h.h2.h h.h2.f h.n2, bag_frz h.hb h.h2.h h.b2, ⟨upd_oldN h.d12 h.h1.f, h.h1.h⟩, ⟨upd_oldN h.d23.symm h.h3.f, h.h3.h⟩, ⟨upd_oldN (Ne.symm e) h4.f, h4.h⟩, h.n1, h.n3, n4, h.b1, h.b3, b4, h.d13, d1, d3⟩
theorem LS3.put1 (h : LS3 F0 H0 F H b a1 a2 a3 x1 x2 x3) : LS3 F0 H0 F (upd H a1 (.lst ys)) b a1 a2 a3 ys x2 x3 :=
  ⟨h.g.mut h.h1.f (.inr h.n1), h.hb.mut h.h1 h.b1, h.h1.put, h.h2.other h.d12.symm, h.h3.other h.d13.symm, h.n1, h.n2, h.n3, h.b1, h.b2, h.b3, h.d12, h.d13, h.d23⟩
theorem LS3.put2 (h : LS3 F0 H0 F H b a1 a2 a3 x1 x2 x3) : LS3 F0 H0 F (upd H a2 (.lst ys)) b a1 a2 a3 x1 ys x3 :=
  ⟨h.g.mut h.h2.f (.inr h.n2), h.hb.mut h.h2 h.b2, h.h1.other h.d12, h.h2.put, h.h3.other h.d23.symm, h.n1, h.n2, h.n3, h.b1, h.b2, h.b3, h.d12, h.d13, h.d23⟩
theorem LS3.put3 (h : LS3 F0 H0 F H b a1 a2 a3 x1 x2 x3) : LS3 F0 H0 F (upd H a3 (.lst ys)) b a1 a2 a3 x1 x2 ys :=
  ⟨h.g.mut h.h3.f (.inr h.n3), h.hb.mut h.h3 h.b3, h.h1.other h.d13, h.h2.other h.d23, h.h3.put, h.n1, h.n2, h.n3, h.b1, h.b2, h.b3, h.d12, h.d13, h.d23⟩
end
def prowD (r : Row3) : PyData := .list [wdD r.sign, .list (r.changed.map wdD), wdD r.maker, .int (arityN r.sign : Nat)]
/-- a drawn library: the law's list, its rows one's own -/
structure LibV (K : PySem.W.Frag) (F H : Hp) (L pl kl rl : Addr) (d : Draft) : Prop where
  li : F L = some (.lst [.str (tx d.name), .ref pl, .ref kl, hookV d.hook, .ref rl])
  pa : F pl = some (.lst (d.parts.map wd))
  ke : ∃ ks, F kl = some (.lst ks) ∧ DpAll K F ks (d.keeping.map keepD)
  ro : ∃ rs, Hold F H rl (.lst rs) ∧ DpAll K F rs (d.rows.map prowD)
  lb : d.Lib
def sp_law_library (K : PySem.W.Frag) : Sp := fun vs H Q _ => ∃ (F0 H0 F : Hp) (b fl : Addr) (fs : List Wd) (nm : Wd) (most : Nat), vs = [.ref b, .ref fl, .str (tx nm), .int (most : Nat)] ∧ Grow [b] F0 H0 F H ∧ Bag3 F H b ∧ H0 fl = none ∧ fl ≠ b ∧ Hold F H fl (.lst (fs.map wd)) ∧
  fs.Nodup ∧ (∀ w ∈ fs, isFieldB w = true) ∧ 5 ≤ fs.length ∧ fs.length ≤ 26 ∧ isClassB nm = true ∧ 1 ≤ most ∧ most ≤ 6 ∧
  ∀ F' H' L pl kl rl d rest, Grow [b] F0 H0 F' H' → Bag3 F' H' b → Hold F' H' fl (.lst rest) → LibV K F' H' L pl kl rl d → H0 rl = none → rl ≠ b → rl ≠ fl → d.name = nm → Q (.ref L) H'
theorem pop_rev {x : Wd} {r : List Wd} : ((x :: r).reverse.map wd).dropLast = r.reverse.map wd := by
  rw [List.reverse_cons, List.map_append]
  simp
theorem last_rev {x : Wd} {r : List Wd} : ((x :: r).reverse.map wd)[((x :: r).reverse.map wd).length - 1]? = some (.str (tx x)) := by
  rw [List.reverse_cons, List.map_append]
  simp [wd]
theorem cut_q (p : Wd) : cutS (tx (p ++ [113])) (some (-8)) none = tx (askQ p) := by
  unfold cutS askQ
  rw [tx_len, HT.sIx_none]
  have e : HT.sIx (p ++ [113]).length 0 (some (-8)) = (p ++ [113]).length - 8 := by
    unfold HT.sIx
    simp only
    rw [if_pos (by decide)]
    omega
  rw [e]
  have e2 : ((tx (p ++ [113])).cps.toList.drop ((p ++ [113]).length - 8)).take ((p ++ [113]).length - ((p ++ [113]).length - 8)) = (p ++ [113]).drop ((p ++ [113]).length - 8) := by
    show (((p ++ [113]).drop ((p ++ [113]).length - 8)).take _) = _
    rw [List.take_of_length_le (by rw [List.length_drop]; omega)]
  rw [e2]
  rfl
def hookOpts : List (Option Wd) := [none, some wNamed, some wCall, some wNames, some wRenew, some wCopy, some wBare, some wCall]
theorem hookOpts_ok : ∀ o ∈ hookOpts, ∀ h, o = some h → h ∈ hooks ∨ h = wBare := by decide
local macro_rules | `(tactic| array_mem_dec) => `(tactic| with_reducible first
  | assumption | exact upd_same
  | (apply upd_new; assumption; array_mem_dec)
  | (apply upd_old; tlg_ne; array_mem_dec)
  | (apply same_at; assumption; array_mem_dec))
local macro_rules | `(tactic| tlg_ne) => `(tactic| with_reducible first
  | assumption | (apply Ne.symm; assumption)
  | (apply ne_new; assumption; array_mem_dec) | (apply ne_new'; assumption; array_mem_dec)
  | (apply ne_of; assumption; assumption; (with_unfolding_all (intro z; cases z; done))))
local macro_rules | `(tactic| decreasing_trivial_pre_omega) => `(tactic| with_reducible first
  | assumption | (apply sqL_of; array_mem_dec) | (apply sqT_of; array_mem_dec)
  | (apply Same.seq; assumption; decreasing_trivial_pre_omega) | (apply sqT_same; assumption; decreasing_trivial_pre_omega)
  | (apply sqL_new; assumption; decreasing_trivial_pre_omega) | (apply sqL_upd; tlg_ne; decreasing_trivial_pre_omega))
local macro_rules | `(tactic| kpt_turns) => `(tactic| with_reducible first
  | assumption | exact Same.refl _ | (apply same_ext; kpt_turns; assumption) | (apply same_mut; kpt_turns; keq_hits) | (apply same_step; assumption; kpt_turns))
local macro_rules | `(tactic| keq_hits) => `(tactic| with_reducible first | assumption | (apply same_none; assumption; keq_hits))
local macro_rules | `(tactic| sizeOf_list_dec) => `(tactic| first | (with_reducible assumption) | (with_reducible_and_instances omega) | (with_unfolding_all decide))
local macro_rules | `(tactic| array_get_dec) => `(tactic| first | (with_reducible assumption) | (apply sz_of; (with_unfolding_all simp); done) | (apply sz_of; omega) | (apply sz_lt; (with_unfolding_all simp); done) | (apply sz_lt; omega))
local macro_rules | `(tactic| keq_rows) => `(tactic| with_reducible first
  | apply rd_asgN | apply rd_seq | apply rd_parA | apply rd_par3A | apply rd_par2 | apply rd_par3 | apply rd_m1 | apply rd_isStr | apply rd_cval | apply rd_asg | apply rd_gname | apply rd_op | (show tVar _ _ _ _; refine rd_var (by with_unfolding_all rfl) ?_) | apply rd_c | apply rd_I0
  | apply rd_cons | apply rd_nil | apply rd_cb | apply rd_test | apply rd_bl | apply rd_fld | apply rd_drop | apply rd_ret | apply rd_retN | apply rd_next
  | apply rd_ifS | apply rd_un | apply rd_B | apply rd_and | apply rd_or | apply rd_not | apply rd_andV | apply rd_orV | apply rd_notV | apply rd_if
  | apply rd_int | apply rd_abs | apply rd_max | apply rd_min | apply rd_strS | apply rd_U
  | apply rd_eqTx | apply rd_neTx | apply rd_inTx | apply rd_notInTx | apply rd_fmt | (show FmtK (.str (tx _)) _ _; refine rd_fmtT (by omega) ?_) | apply rd_jsC | apply rd_jsN | (show JsK _ (tx _) _ (.str (tx _)) _ _; refine rd_JsK (by first | omega | (simp; done) | (simp; omega)) ?_) | (show rAddStr (.str (tx _)) (.str (tx _)) _ _; refine rd_addT (by first | omega | (simp; done) | (simp; omega)) ?_) | (show rLenStr [.str (tx _)] _ _; refine rd_lenTx (by omega) ?_)
  | (show rEq _ _ _ _; refine rd_eq (by with_unfolding_all rfl) ?_) | (show rNe _ _ _ _; refine rd_ne (by with_unfolding_all rfl) ?_) | apply rd_isNone | apply rd_notNone
  | (show rIxL _ _ _ _ _; refine rd_ixL (by decreasing_trivial_pre_omega) (by with_unfolding_all rfl) ?_) | (show rIxT _ _ _ _ _; refine rd_ixT (by decreasing_trivial_pre_omega) (by with_unfolding_all rfl) ?_)
  | (show rLenSeq _ _ _ _; refine rd_lenL (by decreasing_trivial_pre_omega) ?_) | (show rLenSeq _ _ _ _; refine rd_lenT (by decreasing_trivial_pre_omega) ?_)
  | (show rI _ _ _ _ _ _; refine rd_mod (by sizeOf_list_dec) ?_) | (show rI _ _ _ _ _ _; refine rd_div (by sizeOf_list_dec) (by sizeOf_list_dec) ?_) | (show rI _ _ _ _ _ _; refine rd_mulR (by sizeOf_list_dec) (by sizeOf_list_dec) ?_) | (show rI _ _ _ _ _ _; refine rd_mulL (by sizeOf_list_dec) (by sizeOf_list_dec) ?_) | (show rI _ _ _ _ _ _; refine rd_pow (by sizeOf_list_dec) ?_)
  | (show rSetL _ _ _ _ _; refine rd_setL (by array_mem_dec) (by with_unfolding_all rfl) ?_)
  | apply rd_inSign | apply rd_notInSign | apply rd_tupK | apply rd_lstK | apply rd_sl | apply rd_noPart | apply rd_part | apply rd_isInt
  | apply rd_gsub | apply rd_gcons | apply rd_gnil | apply rd_call | apply rd_meth | apply rd_make | apply rd_smeth | apply rd_isC | apply rd_smethK | apply rd_cmeth | apply rd_cmethK
  | apply rd_bm | apply rd_bm0 | (show BmK _ _ _ _ _ _ _ _; refine rd_bmL (by array_mem_dec) ?_) | (show Bm0K _ _ _ _ _ _; refine rd_bm0L (by array_mem_dec) ?_) | apply rd_sfld | apply rd_aug | apply rd_rAdd | apply rd_brk | apply rd_cont
  | apply rd_for | apply rd_iList | (show IList _ _ _ _; refine rd_IList (by decreasing_trivial_pre_omega) ?_) | apply rd_iTup | (show ITup _ _ _ _; refine rd_ITup (by decreasing_trivial_pre_omega) ?_) | apply rd_iEnum | (show IEnum _ _ _ _; refine rd_IEnum (by decreasing_trivial_pre_omega) ?_) | apply rd_iRng1 | (show IRng1 _ _ _; refine rd_IRng1 (by sizeOf_list_dec) (by sizeOf_list_dec) ?_)
  | (show rLenStr _ _ _; refine rd_lenS (by array_get_dec) ?_) | (show rAddStr _ _ _ _; refine rd_addS (by array_get_dec) ?_) | (show rSlS _ _ _ _ _; refine rd_slS (by array_get_dec) ?_) | apply rd_lc | apply rd_yes | (show gTup _ _ _ _ _ _ _; refine rd_gtup (by decreasing_trivial_pre_omega) (by with_unfolding_all rfl) ?_) | (show tMakeL _ _ _ _ _ _ _ _; refine rd_makeL (by with_unfolding_all rfl) ?_))
local macro_rules | `(tactic| kas_types) => `(tactic| with_reducible first | apply rd_isi_int_int | apply rd_isi_int_bool | apply rd_isi_int_str | apply rd_isi_int_list | apply rd_isi_int_tuple | apply rd_isi_bool_int | apply rd_isi_bool_bool | apply rd_isi_bool_str | apply rd_isi_bool_list | apply rd_isi_bool_tuple | apply rd_isi_str_int | apply rd_isi_str_bool | apply rd_isi_str_str | apply rd_isi_str_list | apply rd_isi_str_tuple | (show rIsi _ _ _ _; refine rd_isi_list_int (by array_mem_dec) ?_) | (show rIsi _ _ _ _; refine rd_isi_list_bool (by array_mem_dec) ?_) | (show rIsi _ _ _ _; refine rd_isi_list_str (by array_mem_dec) ?_) | (show rIsi _ _ _ _; refine rd_isi_list_list (by array_mem_dec) ?_) | (show rIsi _ _ _ _; refine rd_isi_list_tuple (by array_mem_dec) ?_) | (show rIsi _ _ _ _; refine rd_isi_tuple_int (by array_mem_dec) ?_) | (show rIsi _ _ _ _; refine rd_isi_tuple_bool (by array_mem_dec) ?_) | (show rIsi _ _ _ _; refine rd_isi_tuple_str (by array_mem_dec) ?_) | (show rIsi _ _ _ _; refine rd_isi_tuple_list (by array_mem_dec) ?_) | (show rIsi _ _ _ _; refine rd_isi_tuple_tuple (by array_mem_dec) ?_) | apply rd_isi_NoneType_int | apply rd_isi_NoneType_bool | apply rd_isi_NoneType_str | apply rd_isi_NoneType_list | apply rd_isi_NoneType_tuple)
local macro_rules | `(tactic| lcg_src) => `(tactic| repeat keq_rows)

local macro_rules | `(tactic| lcg_sub) => `(tactic| with_reducible first | apply rd_chain | apply rd_revL)
local macro_rules | `(tactic| lcg_off) => `(tactic| repeat (first | keq_rows | lcg_sub))
section
variable {P : Program} {w : World} {K : PySem.W.Frag} {mg : Str → Option Value} {base : Heap} {a : Ad}
theorem ok_law_library (T : Txt K mg a) : FnOk P w K mg base CX0 3 a.f_law_library a.fd_law_library ["_law_bag_here", "_law_fields", "_law_name", "_law_most"]  (sp_law_library K) := by
  refine T.F_law_library.ok sc_law_library (fun vs H Q E h => ?_) (fun cdv A outer s H vs Q E hr h => ?_)
  · obtain ⟨_, _, _, _, _, _, _, _, rfl, _⟩ := h
    rfl
  · obtain ⟨F0, H0, F, b, fl, fs, nm, most, rfl, g0, hb, nfl, nfb, hfl, fnd, ff, fl5, fl26, hnm, hm1, hm6, k⟩ := h
    refine ⟨_, ((pss_cons (ps_setLc (i := 4) (own := [("_law_turn", 5)]) (g := gName 5) (tt := tYes) rfl sc_law_library.nd rfl rfl (sw_true rfl rfl rfl (by decide +kernel)) (pi_range1 rfl T.n_range (pa_cons (pe_op op_add pe_int (pe_call (ok_law_take T) (hr.mono (by decide)) rfl T.g_law_take T.F_law_take.kp T.b_law_take .nil pass0 (pa_cons (pv 0) (pa_cons pe_int pa_nil)))) pa_nil)) (blkOk_by (own := [("_law_turn", 5)]) (N := ["_law_bag_here", "_law_fields", "_law_name", "_law_most", "_law_parts", "_law_turn", "_law_kept", "_law_rows", "_law_row", "_law_hooked", "_law_asks", "_law_left", "_law_sign", "_law_arity", "_law_changed", "_law_part"]) (sc := defScope s_law_library) (by decide +kernel)) (fun _ _ _ _ _ => (pg_name (i := 5) sc_law_library.nd rfl (Or.inl rfl))) (fun _ _ _ _ _ => pts_nil) (fun _ _ _ _ _ => (pe_bm0K (K := K) PySem.F.plainAttrs_list PySem.F.slot_list_pop PySem.F.type_list_pop mt_pop (pv 1))))
 (pss_cons (ps_par (i := 6) (j := 7) (by rfl) sc_law_library.nd rfl rfl (by decide) rfl rfl (pa_cons (pe_lst pa_nil) (pa_cons (pe_lst pa_nil) pa_nil)) (by rfl))
 (pss_cons (ps_for PassesOwn.never rfl (pi_range1 rfl T.n_range (pa_cons (pe_call (ok_law_take T) (hr.mono (by decide)) rfl T.g_law_take T.F_law_take.kp T.b_law_take .nil pass0 (pa_cons (pv 0) (pa_cons pe_int pa_nil))) pa_nil)) (pg_name (i := 5) sc_law_library.nd rfl (Or.inl rfl))
 (pss_one (ps_expr (pe_bm PySem.F.plainAttrs_list PySem.F.slot_list_append PySem.F.type_list_append mt_append (pv 6) (pa_cons (pe_tup (pa_cons (pe_bm0 PySem.F.plainAttrs_list PySem.F.slot_list_pop PySem.F.type_list_pop mt_pop (pv 1)) (pa_cons (pe_call (ok_law_of T) hr rfl T.g_law_of T.F_law_of.kp T.b_law_of .nil pass0 (pa_cons (pv 0) (pa_cons (pe_op op_cat (pv 4) (pe_lc (own := [("_law_row", 8)]) (g := gName 8) (tt := tYes) rfl sc_law_library.nd (pi_list (pv 6)) (blkOk_by (own := [("_law_row", 8)]) (N := ["_law_bag_here", "_law_fields", "_law_name", "_law_most", "_law_parts", "_law_turn", "_law_kept", "_law_rows", "_law_row", "_law_hooked", "_law_asks", "_law_left", "_law_sign", "_law_arity", "_law_changed", "_law_part"]) (sc := defScope s_law_library) (by decide +kernel)) (fun _ _ _ _ _ => (pg_name (i := 8) sc_law_library.nd rfl (Or.inl rfl))) (fun _ _ _ _ _ => pts_nil) (fun _ _ _ _ _ => (pe_ix (ix_tupK (K := K)) (pv 8) pe_int (fun _ _ => rfl))))) pa_nil))) pa_nil))) pa_nil)))))
 (pss_cons (ps_set (i := 9) sc_law_library.nd rfl (Or.inl rfl) (pe_call (ok_law_of T) hr rfl T.g_law_of T.F_law_of.kp T.b_law_of .nil pass0 (pa_cons (pv 0) (pa_cons (pe_lst (pa_cons pe_non (pa_cons pe_str (pa_cons pe_str (pa_cons pe_str (pa_cons pe_str (pa_cons pe_str (pa_cons pe_str (pa_cons pe_str pa_nil))))))))) pa_nil))))
 (pss_cons (ps_set (i := 10) sc_law_library.nd rfl (Or.inl rfl) (pe_lst (pa_cons pe_str (pa_cons pe_str (pa_cons (pe_slice sl_str (pe_op op_addStr (pe_ix ix_list (pv 4) pe_int (fun _ _ => rfl)) pe_str) (po_some (pe_un un_neg pe_int)) po_none) pa_nil)))))
 (pss_cons (ps_set (i := 11) sc_law_library.nd rfl (Or.inl rfl) (pe_op op_cat (pe_lst (pa_cons pe_str (pa_cons pe_str (pa_cons pe_str (pa_cons pe_str (pa_cons pe_str (pa_cons pe_str (pa_cons pe_str (pa_cons pe_str (pa_cons pe_str (pa_cons pe_str (pa_cons pe_str (pa_cons pe_str (pa_cons pe_str pa_nil)))))))))))))) (pv 10)))
 (pss_cons (ps_for PassesOwn.never rfl (pi_range1 rfl T.n_range (pa_cons (pe_op op_add pe_int (pe_call (ok_law_take T) (hr.mono (by decide)) rfl T.g_law_take T.F_law_take.kp T.b_law_take .nil pass0 (pa_cons (pv 0) (pa_cons (pv 3) pa_nil)))) pa_nil)) (pg_name (i := 5) sc_law_library.nd rfl (Or.inl rfl))
 (pss_cons (ps_set (i := 12) sc_law_library.nd rfl (Or.inl rfl) (pe_bm PySem.F.plainAttrs_list PySem.F.slot_list_pop PySem.F.type_list_pop mt_popAt (pv 11) (pa_cons (pe_call (ok_law_take T) (hr.mono (by decide)) rfl T.g_law_take T.F_law_take.kp T.b_law_take .nil pass0 (pa_cons (pv 0) (pa_cons (pe_callB call_lenSeq (by rfl) T.n_len (by decide +kernel) (pa_cons (pv 11) pa_nil)) pa_nil))) pa_nil)))
 (Evl.pss_cut (ps_set (i := 13) sc_law_library.nd rfl (Or.inr rfl) (pe_ifExp (pt_cmpR op_in_seq (pv 12) (pv 10) (by rfl)) pe_int (pe_ifExp (pt_cmpR op_in_seq (pv 12) (pe_lst (pa_cons pe_str (pa_cons pe_str (pa_cons pe_str (pa_cons pe_str pa_nil))))) (by rfl)) pe_int pe_int)))
 (pss_cons (ps_setLc (i := 14) (own := [("_law_part", 15)]) (g := gName 15) rfl sc_law_library.nd rfl rfl (sw_true rfl rfl rfl (by decide +kernel)) (pi_list (pv 4)) (blkOk_by (own := [("_law_part", 15)]) (N := ["_law_bag_here", "_law_fields", "_law_name", "_law_most", "_law_parts", "_law_turn", "_law_kept", "_law_rows", "_law_row", "_law_hooked", "_law_asks", "_law_left", "_law_sign", "_law_arity", "_law_changed", "_law_part"]) (sc := defScope s_law_library) (by decide +kernel)) (fun _ _ _ _ _ => (pg_name (i := 15) sc_law_library.nd rfl (Or.inl rfl))) (fun _ _ _ _ _ => (pts_one (PW.pt (pw_or (pt_cmpR op_eq (pv 13) pe_int (nomark _)) (pw_or1 (pt_cmpR op_eq (pe_call (ok_law_take T) (hr.mono (by decide)) rfl T.g_law_take T.F_law_take.kp T.b_law_take .nil pass0 (pa_cons (pv 0) (pa_cons pe_int pa_nil))) pe_int (nomark _))))))) (fun _ _ _ _ _ => (pv 15)))
 (pss_one (ps_expr (pe_bm PySem.F.plainAttrs_list PySem.F.slot_list_append PySem.F.type_list_append mt_append (pv 7) (pa_cons (pe_lst (pa_cons (pv 12) (pa_cons (pv 14) (pa_cons (pe_call (ok_law_of T) hr rfl T.g_law_of T.F_law_of.kp T.b_law_of .nil pass0 (pa_cons (pv 0) (pa_cons (pe_call (ok_law_makers T) (hr.mono (by decide)) rfl T.g_law_makers T.F_law_makers.kp T.b_law_makers .nil pass0 (pa_cons (pv 13) (pa_cons (pv 9) pa_nil))) pa_nil))) (pa_cons (pv 13) pa_nil))))) pa_nil))))))))
 (pss_one (ps_ret (pe_lst (pa_cons (pv 2) (pa_cons (pv 4) (pa_cons (pv 6) (pa_cons (pv 9) (pa_cons (pv 7) pa_nil)))))))))))))))), ?_⟩
    try simp only [cxK, m_named, m_call, m_names, m_renew, m_copy, bare_tx, m_zero, by_tx, g_q, g_p1, g_p2, g_p3, g_p4, g_p5, g_p6, g_p7, g_p8, g_p9, g_u1, g_u2, g_u3, g_u4]
    obtain ⟨rf, rfl⟩ : ∃ rf : List Wd, fs = rf.reverse := ⟨fs.reverse, (List.reverse_reverse fs).symm⟩
    have hrl : rf.length = rf.reverse.length := by simp
    have rnd : rf.Nodup := (List.pairwise_reverse.mp fnd).imp fun h => h.symm
    have rff : ∀ w ∈ rf, isFieldB w = true := fun w hw => ff w (List.mem_reverse.mpr hw)
    lcg_off
    refine take_ok hb (by decide) (by decide) fun t1 H1 ht1 g1 hb1 => ?_
    have hf1 := hfl.goB g1 nfb
    have g01 := g0.trans g1
    lcg_off
    refine lcX (K := K) (F := F) (n := ((1 : Int) + (t1 : Nat)).toNat) (X := fun i x => x = .int (i : Int)) (fun i F' H' acc => F' = F ∧ Grow [b] F0 H0 F H' ∧ Bag3 F H' b ∧ Hold F H' fl (.lst ((rf.drop i).reverse.map wd)) ∧ acc = (rf.take i).map wd ∧ i ≤ rf.length) (by omega)
      (fun i F' H' acc _ e => Nat.le_refl _) (fun i F' H' acc _ hi => hi) (fun i F' H2 acc x H3 hi _ y => rng_yld y) ⟨rfl, g01, hb1, by simpa using hf1, rfl, Nat.zero_le _⟩ ?_ ?_ ?_ ?_
    · rintro i F' H' acc D o ⟨rfl, z1, z2, z3, z4, z5⟩ hD
      have fD := hb1.fh.free hD
      have hb' : D ≠ b := fun z => hb1.nn (z ▸ hD)
      have hf' : fl ≠ D := ne_of_none hf1.h hD
      obtain ⟨dd, m, c, c0, c1, e⟩ := z2.hb
      exact ⟨rfl, z1.mut fD (.inr (g01.free hD)), ⟨same_mut z2.fh fD, z2.fb, dd, m, c, c0, c1, upd_old hb'.symm e⟩, z3.other hf', z4, z5⟩
    · rintro i F' H' acc ⟨_, _, _, _, rfl, hi⟩
      rw [List.length_map, List.length_take]
      omega
    · rintro i x F1 H2 acc D hi rfl ⟨rfl, z1, z2, z3, rfl, z5⟩ nD hD Done Kept hdn hk
      have hir : i < rf.length := by omega
      have hd : rf.drop i = rf[i] :: rf.drop (i + 1) := List.drop_eq_getElem_cons hir
      rw [hd] at z3
      have z3h := z3.h
      lcg_off
      refine ⟨rfl, ?_⟩
      lcg_off
      refine iteT ?_
      lcg_off
      refine rd_pop z3.h last_rev ?_
      rw [pop_rev]
      have nDf : D ≠ fl := (ne_of_none hf1.h nD).symm
      refine hk F1 _ _ ⟨rfl, z1.mut z3.f (.inr nfl), z2.mut z3 nfb, z3.put, ?_, by omega⟩ (upd_old nDf hD)
      rw [List.take_succ_eq_append_getElem hir, List.map_append]
      rfl
    rintro F' H2 pl acc ⟨_, z1, z2, z3, rfl, z5⟩ npl hpl
    have fpl := hb1.fh.free npl
    have npb : pl ≠ b := fun z => hb1.nn (z ▸ npl)
    have npf : fl ≠ pl := ne_of_none hf1.h npl
    have np0 : H0 pl = none := g01.free npl
    have hnp : ((1 : Int) + (t1 : Nat)).toNat = 1 + t1 := by omega
    rw [hnp] at z3 hpl
    have hnp3 : 1 + t1 ≤ 3 := by omega
    have hnp1 : 1 ≤ 1 + t1 := by omega
    generalize 1 + t1 = np at z3 hpl hnp3 hnp1
    have g2 := z1.frz hpl fpl np0
    have hb2 := bag_frz z2 hpl npb
    have hf2 : Hold (upd F pl (.lst ((rf.take np).map wd))) H2 fl (.lst ((rf.drop np).reverse.map wd)) := ⟨upd_oldN npf z3.f, z3.h⟩
    have epl : upd F pl (.lst ((rf.take np).map wd)) pl = some (.lst ((rf.take np).map wd)) := upd_same
    generalize upd F pl (.lst ((rf.take np).map wd)) = F2 at g2 hb2 hf2 epl
    have ppl : (rf.take np).length = np := by rw [List.length_take]; omega
    have ppf : ∀ p ∈ rf.take np, isFieldB p = true := fun p hp => rff p (List.mem_of_mem_take hp)
    clear z1 z2 z3 hpl npl fpl hf1 hb1 g1 g01 g0 hb hfl
    lcg_off
    refine newO hb2.fh fun H3 kl g3 nkl hkl => ?_
    lcg_off
    refine newO g3.fh fun H4 rl g4 nrl hrl' => ?_
    have hk4 := hkl.go0 g4
    have hf4 := (hf2.go0 g3).go0 g4
    have g24 := g3.trans g4
    have L4 : LS3 F0 H0 F2 H4 b fl kl rl ((rf.drop np).reverse.map wd) [] [] := by
      have hb3 := hb2.go0 g3
      exact ⟨g2.step (S' := []) g24, hb3.go0 g4, hf4, hk4, hrl', nfl, g2.free nkl, (g2.step (S' := []) g3).free nrl, nfb, fun z => hb2.nn (z ▸ nkl), fun z => hb3.nn (z ▸ nrl), ne_of_none hf2.h nkl, ne_of_none (hf2.go0 g3).h nrl, ne_of_none hkl.h nrl⟩
    clear hk4 hf4 hrl' hkl hf2 hb2 g24 g4 nrl g3 nkl g2
    lcg_off
    refine take_ok L4.hb (by decide) (by decide) fun t5 H5 ht5 g5 hb5 => ?_
    have L5 := L4.goB g5 hb5
    clear L4 g5 hb5
    lcg_off
    refine fk_range (n := ((t5 : Nat) : Int).toNat) (fun i σ H6 => ∃ (F6 : Hp) (kp : List (Wd × Wd)) (ks : List V), LS3 F0 H0 F6 H6 b fl kl rl ((rf.drop (np + i)).reverse.map wd) ks [] ∧ DpAll K F6 ks (kp.map keepD) ∧ F6 pl = some (.lst ((rf.take np).map wd)) ∧ kp.length = i ∧ kp.map (·.1) = (rf.drop np).take i ∧
        (∀ j q, kp[j]? = some q → q.2 ∈ rf.take np ∨ q.2 ∈ (kp.take j).map (·.1)) ∧ ∃ v5 v8, σ = [some (.ref b), some (.ref fl), some (.str (tx nm)), some (.int (most : Nat)), some (.ref pl), v5, some (.ref kl), some (.ref rl), v8, none, none, none, none, none, none, none])
      ⟨F2, [], [], by simpa using L5, .nil, epl, rfl, rfl, (fun j q h => by simp at h), none, none, rfl⟩ ?_ ?_
    · rintro i σ H6 hi ⟨F6, kp, ks, L6, hks, epl6, hkn, hkf, hks2, v5, v8, rfl⟩
      have hi3 : i < 2 := by omega
      have hir : np + i < rf.length := by omega
      have hd : rf.drop (np + i) = rf[np + i] :: rf.drop (np + i + 1) := List.drop_eq_getElem_cons hir
      rw [hd] at L6
      have h1h := L6.h1.h
      have h2h := L6.h2.h
      lcg_off
      refine rd_pop L6.h1.h last_rev ?_
      rw [pop_rev]
      have L7 := L6.put1 (ys := (rf.drop (np + i + 1)).reverse.map wd)
      generalize upd H6 fl (.lst ((rf.drop (np + i + 1)).reverse.map wd)) = H7 at L7
      clear L6 h1h h2h
      have h2h := L7.h2.h
      have hksl : ks.length = kp.length := by simpa using hks.length
      lcg_off
      refine firsts_keep L7.hb.fh L7.h2.h (hks.mono L7.hb.fh) (by omega) (fun t q H2 Done Kept ht hk => ?_) fun D8 H8 nD8 g8 e8 => ?_
      · lcg_off
        refine ⟨rfl, ?_⟩
        lcg_off
        refine iteT ?_
        lcg_off
        exact hk _ (Same.refl _)
      have L8 := L7.go g8
      refine new_cat g8.fh (g8.fh _ _ epl6) e8 (by simp; omega) fun F9 H9 l9 g9 n9 e9 => ?_
      rw [← List.map_append] at e9
      have L9 := L8.go g9
      lcg_off
      refine of_words L9.hb e9 (by simp; omega) (by simp; omega) fun so H10 hso g10 hb10 => ?_
      have L10 := L9.goB g10 hb10
      lcg_off
      refine newTD (K := K) (ds := [wdD rf[np + i], wdD so]) L10.hb.fh (.cons (.str _) (.cons (.str _) .nil)) fun F11 H11 t11 g11 n11 e11 => ?_
      have L11 := L10.go g11
      lcg_off
      refine rd_append L11.h2.h (by rw [hksl]; exact sz_lt (by omega)) ?_
      lcg_off
      refine ⟨F11, kp ++ [(rf[np + i], so)], _, L11.put2, ?_, g11.ff _ _ (g9.ff _ _ epl6), by simp [hkn], ?_, fun j q hj => ?_, _, _, rfl⟩
      · rw [List.map_append]
        exact (hks.mono (g9.ff.trans g11.ff)).snoc e11
      · rw [List.map_append, hkf, List.take_add_one, List.getElem?_drop, List.getElem?_eq_getElem hir]
        rfl
      · by_cases hjk : j < kp.length
        · rw [List.getElem?_append_left hjk] at hj
          rw [List.take_append_of_le_length (by omega)]
          exact hks2 j q hj
        · have hj2 : j = kp.length := by
            have := (List.getElem?_eq_some_iff.mp hj).1
            simp at this
            omega
          subst hj2
          rw [List.getElem?_append_right (Nat.le_refl _)] at hj
          simp at hj
          subst hj
          rw [List.take_left]
          exact List.mem_append.mp hso
    clear L5
    rintro σ H6 ⟨F6, kp, ks, L6, hks, epl6, hkn, hkf, hks2, v5, v8, rfl⟩
    have hkn2 : kp.length ≤ 2 := by omega
    generalize ((t5 : Nat) : Int).toNat = nk at L6 hkn hkf
    have hp0 : 0 < rf.length := by omega
    have hp0t : (rf.take np)[0]? = some rf[0] := by rw [List.getElem?_take_of_lt (by omega), List.getElem?_eq_getElem hp0]
    have hpf0 := rff rf[0] (List.getElem_mem hp0)
    have hpl0 := isWordB_len (isFieldB_word hpf0)
    generalize hp0e : rf[0] = p0 at hp0t hpf0 hpl0
    lcg_off
    refine newL L6.hb.fh fun F7 H7 l7 g7 n7 e7 => ?_
    have L7 := L6.go g7
    lcg_off
    refine ⟨F7, b, l7, hookOpts.map hookV, rfl, L7.hb, sqL_of e7, by decide, by decide, fun i x H8 hx g8 hb8 => ?_⟩
    rw [List.getElem?_map] at hx
    cases ho : hookOpts[i]? with
    | none => rw [ho] at hx; cases hx
    | some o =>
      rw [ho] at hx
      obtain rfl : hookV o = x := Option.some.inj hx
      have hoh := hookOpts_ok o (List.mem_of_getElem? ho)
      have L8 := L7.goB g8 hb8
      have epl8 := g7.ff _ _ epl6
      have eplH := L8.hb.fh _ _ epl8
      have hks8 := hks.mono g7.ff
      clear L6 L7 g8 hb8 hx ho
      lcg_off
      refine rd_ixL (sqL_of eplH) (v := .str (tx p0)) (atI_at (i := 0) (by rw [List.getElem?_map, hp0t]; rfl)) ?_
      lcg_off
      refine rd_slS (by rw [tx_len]; exact sz_of (by simp; omega)) ?_
      rw [cut_q]
      lcg_off
      refine newL L8.hb.fh fun F9 H9 al g9 n9 e9 => ?_
      have L9 := L8.go g9
      lcg_off
      refine newL L9.hb.fh fun F10 H10 l10 g10 n10 e10 => ?_
      have L10 := L9.go g10
      have e9' := g10.ff _ _ e9
      lcg_off
      refine rd_cat (g10.fh _ _ e10) (g10.fh _ _ e9') (by simp) fun le nle => ?_
      have nle0 : H0 le = none := L10.g.free nle
      have nleb : le ≠ b := fun z => L10.hb.nn (z ▸ nle)
      have nl1 : fl ≠ le := ne_of_none L10.h1.h nle
      have nl2 : kl ≠ le := ne_of_none L10.h2.h nle
      have nl3 : rl ≠ le := ne_of_none L10.h3.h nle
      have g11 : Grow [] F10 H10 F10 (upd H10 le (.lst ((allSg p0).map wd))) := (Grow.refl L10.hb.fh).newO nle
      have L11 := L10.go g11
      have h11 := Hold.new (o := .lst ((allSg p0).map wd)) L10.hb.fh nle
      have ea : upd H10 le (.lst ((allSg p0).map wd)) = upd H10 le (.lst ([V.str (tx [43]), V.str (tx [45]), V.str (tx [42]), V.str (tx [47, 47]), V.str (tx [38]), V.str (tx [124]), V.str (tx [94]), V.str (tx [60, 60]), V.str (tx [62, 62]), V.str (tx [110, 101, 103]), V.str (tx [112, 111, 115]), V.str (tx [97, 98, 115]), V.str (tx [105, 110, 118, 101, 114, 116])] ++ [V.str (tx wZero'), V.str (tx wBy), V.str (tx (askQ p0))])) := rfl
      rw [← ea]
      clear ea
      obtain L12 := (L11.frz2 h11 nle0 nleb nl1 nl3).resolve_right nl2
      have skl : Same F10 (upd F10 kl (.lst ks)) := same_new L11.h2.f
      have ekl : upd F10 kl (.lst ks) kl = some (.lst ks) := upd_same
      have epl12 := skl _ _ (g10.ff _ _ (g9.ff _ _ epl8))
      have eal12 := skl _ _ e9'
      have hks12 := hks8.mono ((g9.ff.trans g10.ff).trans skl)
      generalize upd F10 kl (.lst ks) = F12 at L12 ekl epl12 eal12 hks12
      generalize upd H10 le (.lst ((allSg p0).map wd)) = H12 at L12
      clear L11 h11 g11 L10 L9 L8 skl
      lcg_off
      refine take_ok L12.hb (by omega) (by omega) fun t13 H13 ht13 g13 hb13 => ?_
      have L13 := L12.goB g13 hb13
      clear L12 g13 hb13
      lcg_off
      refine fk_range (n := ((1 : Int) + (t13 : Nat)).toNat) (fun i σ H14 => ∃ (F14 : Hp) (rows : List Row3) (rs : List V) (left : List Wd), LS3 F0 H0 F14 H14 b fl rl le ((rf.drop (np + nk)).reverse.map wd) rs (left.map wd) ∧ DpAll K F14 rs (rows.map prowD) ∧ TakenW (allSg p0) (rows.map (·.sign)) left ∧ rows.length = i ∧
          (∀ r ∈ rows, SignOk (rf.take np) r.sign r.changed ∧ r.maker ∈ mkFor (arityN r.sign) o.isSome) ∧ F14 pl = some (.lst ((rf.take np).map wd)) ∧ F14 al = some (.lst ((asks p0).map wd)) ∧ F14 kl = some (.lst ks) ∧ DpAll K F14 ks (kp.map keepD) ∧
          ∃ v5 v8 v12 v13 v14 v15, σ = [some (.ref b), some (.ref fl), some (.str (tx nm)), some (.int (most : Nat)), some (.ref pl), v5, some (.ref kl), some (.ref rl), v8, some (hookV o), some (.ref al), some (.ref le), v12, v13, v14, v15])
        ⟨F12, [], [], allSg p0, L13, .nil, TakenW.start (allSg_nodup hpf0), rfl, (fun r hr => by cases hr), epl12, eal12, ekl, hks12, _, _, none, none, none, none, rfl⟩ ?_ ?_
      · rintro i σ H14 hi ⟨F14, rows, rs, left, L14, hrs, tk, hrn, hrok, epl14, eal14, ekl14, hks14, v5, v8, v12, v13, v14, v15, rfl⟩
        have hi6 : i < 6 := by omega
        have hal16 : (allSg p0).length = 16 := rfl
        have htl := tk.len
        rw [List.length_map, hrn, hal16] at htl
        have h3h := L14.h3.h
        have hlm : (left.map wd).length = left.length := by simp
        have hrsl : rs.length = rows.length := by simpa using hrs.length
        lcg_off
        refine take_ok L14.hb (by rw [hlm]; omega) (by rw [hlm]; omega) fun q H15 hq g15 hb15 => ?_
        rw [hlm] at hq
        have L15 := L14.goB g15 hb15
        have hq2 : q < left.length := by omega
        have hqc : left[q]? = some left[q] := List.getElem?_eq_getElem hq2
        generalize left[q] = sg at hqc
        have hsg : sg ∈ allSg p0 := tk.la sg (List.mem_of_getElem? hqc)
        have tk2 := tk.pop hqc
        lcg_off
        refine rd_popAt (y := .str (tx sg)) L15.h3.h (by rw [List.getElem?_map, hqc]; rfl) (by rw [hlm]; omega) ?_
        rw [erase_map]
        have L16 := L15.put3 (ys := (left.eraseIdx q).map wd)
        generalize upd H15 le (.lst ((left.eraseIdx q).map wd)) = H16 at L16
        clear L14 L15 g15 hb15 h3h
        have har := ar_of hpf0 hsg
        refine rd_cut (fun σ' H' => ∃ F17, Grow [] F14 H16 F17 H' ∧ σ' = [some (.ref b), some (.ref fl), some (.str (tx nm)), some (.int (most : Nat)), some (.ref pl), some (.int (i : Nat)), some (.ref kl), some (.ref rl), v8, some (hookV o), some (.ref al), some (.ref le), some (.str (tx sg)), some (.int (arityN sg : Nat)), v14, v15]) ?_ ?_
        · lcg_off
          refine rd_inWL (ws := asks p0) (sqL_of (L16.hb.fh _ _ eal14)) ?_
          lcg_off
          refine ifD (fun z => ?_) (fun z => ?_)
          · lcg_off
            refine ⟨F14, Grow.refl L16.hb.fh, ?_⟩
            rw [har, if_pos z]
            rfl
          · lcg_off
            refine newL L16.hb.fh fun F17 H17 l17 g17 n17 e17 => ?_
            refine rd_inWL (ws := unS) (sqL_of (g17.fh _ _ e17)) ?_
            lcg_off
            refine ifD (fun z2 => ?_) (fun z2 => ?_)
            · lcg_off
              refine ⟨F17, g17, ?_⟩
              rw [har, if_neg z, if_pos z2]
              rfl
            · lcg_off
              refine ⟨F17, g17, ?_⟩
              rw [har, if_neg z, if_neg z2]
              rfl
        rintro σ' H17 ⟨F17, g17, rfl⟩
        have L17 := L16.go g17
        have epl17 := g17.ff _ _ epl14
        have epl17H := L17.hb.fh _ _ epl17
        clear L16
        lcg_off
        refine lcB3L (xs := (rf.take np).map wd) (fun j F' acc => ∃ cs : List Wd, acc = cs.map wd ∧ cs.Sublist ((rf.take np).take j) ∧ (arityN sg = 0 → cs = (rf.take np).take j)) L17.hb (sqL_of epl17) (by rw [List.length_map]; omega) ⟨[], rfl, by simp, fun _ => rfl⟩ (fun j F' acc ⟨cs, e, hs, _⟩ => by rw [e, List.length_map]; exact Nat.le_trans hs.length_le (by rw [List.length_take]; omega)) (fun j F3 F4 acc _ z => z) (fun j x F18 H18 acc hj hx g18 hb18 hacc Done Kept hd hk => ?_) fun F18 H18 D acc g18 hb18 nD hD hacc => ?_
        · obtain ⟨cs, rfl, c1, c2⟩ := hacc
          rw [List.getElem?_map] at hx
          cases hp : (rf.take np)[j]? with
          | none => rw [hp] at hx; cases hx
          | some p =>
            rw [hp] at hx
            obtain rfl : V.str (tx p) = x := Option.some.inj hx
            obtain ⟨j1, j2⟩ := List.getElem?_eq_some_iff.mp hp
            have ht : (rf.take np).take (j + 1) = (rf.take np).take j ++ [p] := by rw [List.take_succ_eq_append_getElem j1, j2]
            have yes : ∀ H19, Grow [b] F18 H18 F18 H19 → Bag3 F18 H19 b → Kept (.str (tx p)) H19 := fun H19 g19 hb19 => by
              refine hk F18 H19 _ g19 hb19 ⟨cs ++ [p], by rw [List.map_append]; rfl, ?_, fun z => ?_⟩
              · rw [ht]
                exact c1.append (List.Sublist.refl _)
              · rw [ht, c2 z]
            lcg_off
            refine ⟨rfl, ?_⟩
            lcg_off
            refine ifD (fun z => ?_) (fun z => ?_)
            · refine iteT ?_
              lcg_off
              exact yes H18 (Grow.refl hb18.fh) hb18
            · have z' : arityN sg ≠ 0 := fun y => z (by rw [y]; rfl)
              lcg_off
              refine take_ok hb18 (by decide) (by decide) fun r19 H19 hr19 g19 hb19 => ?_
              lcg_off
              refine ifD (fun z2 => ?_) (fun z2 => ?_)
              · lcg_off
                exact yes H19 g19 hb19
              · refine hd F18 H19 g19 hb19 ⟨cs, rfl, ?_, fun y => absurd y z'⟩
                rw [ht]
                exact c1.trans (List.sublist_append_left _ _)
        obtain ⟨cs, rfl, c1, c2⟩ := hacc
        rw [List.length_map, List.take_length] at c1 c2
        have L18 := L17.goB g18 hb18
        have nD0 : H0 D = none := L17.g.free nD
        have nDb : D ≠ b := fun z => L17.hb.nn (z ▸ nD)
        have L19 : LS3 F0 H0 (upd F18 D (.lst (cs.map wd))) H18 b fl rl le ((rf.drop (np + nk)).reverse.map wd) rs ((left.eraseIdx q).map wd) :=
          ⟨L18.g.frz hD.h hD.f nD0, bag_frz L18.hb hD.h nDb, ⟨upd_oldN (ne_of_none L17.h1.h nD) L18.h1.f, L18.h1.h⟩, ⟨upd_oldN (ne_of_none L17.h2.h nD) L18.h2.f, L18.h2.h⟩, ⟨upd_oldN (ne_of_none L17.h3.h nD) L18.h3.f, L18.h3.h⟩, L18.n1, L18.n2, L18.n3, L18.b1, L18.b2, L18.b3, L18.d12, L18.d13, L18.d23⟩
        have sD : Same F18 (upd F18 D (.lst (cs.map wd))) := same_new hD.f
        have eD : upd F18 D (.lst (cs.map wd)) D = some (.lst (cs.map wd)) := upd_same
        generalize upd F18 D (.lst (cs.map wd)) = F19 at L19 sD eD
        have s19 : Same F14 F19 := (g17.ff.trans g18.ff).trans sD
        clear L18 L17 hD g18 hb18
        have hcs : SignOk (rf.take np) sg cs := by
          by_cases ha : sg ∈ asks p0
          · obtain ⟨w1, w2, w3⟩ := asks_word hpf0 ha
            rw [if_pos ha] at har
            exact .inr ⟨w1, w2, w3, c2 har⟩
          · have hs' : sg ∈ binS ++ unS := by
              rcases List.mem_append.mp hsg with z | z
              · exact z
              · exact absurd z ha
            exact .inl ⟨List.mem_append.mp hs', sub_filter c1 (rnd.sublist (List.take_sublist ..))⟩
        have h2h := L19.h2.h
        lcg_off
        refine ⟨F19, arityN sg, o, rfl, arityN_le sg, L19.hb.fh, fun F20 H20 ml g20 n20 e20 => ?_⟩
        have L20 := L19.go g20
        have hml : 0 < (mkFor (arityN sg) o.isSome).length ∧ (mkFor (arityN sg) o.isSome).length < 1000 := by
          have h1 : ∀ n ∈ [0, 1, 2], ∀ hk : Bool, 0 < (mkFor n hk).length ∧ (mkFor n hk).length < 1000 := by decide +kernel
          have h2 := arityN_le sg
          exact h1 _ (by have : arityN sg = 0 ∨ arityN sg = 1 ∨ arityN sg = 2 := by omega
                         simpa using this) _
        lcg_off
        refine of_words L20.hb e20 hml.1 hml.2 fun mk H21 hmk g21 hb21 => ?_
        have L21 := L20.goB g21 hb21
        lcg_off
        refine newLD (K := K) (ds := [wdD sg, .list (cs.map wdD), wdD mk, .int (arityN sg : Nat)]) L21.hb.fh (.cons (.str _) (.cons (.lst (sqL_of (g20.ff _ _ eD)) (wd_dp cs)) (.cons (.str _) (.cons (.int _) .nil)))) fun F22 H22 t22 g22 n22 e22 => ?_
        have L22 := L21.go g22
        have s22 : Same F14 F22 := s19.trans (g20.ff.trans g22.ff)
        lcg_off
        refine rd_append L22.h2.h (by rw [hrsl]; exact sz_lt (by omega)) ?_
        lcg_off
        refine ⟨F22, rows ++ [⟨sg, cs, mk⟩], _, left.eraseIdx q, L22.put2, ?_, ?_, by simp [hrn], fun r hr => ?_, s22 _ _ epl14, s22 _ _ eal14, s22 _ _ ekl14, hks14.mono s22, _, _, _, _, _, _, rfl⟩
        · rw [List.map_append]
          exact (hrs.mono s22).snoc e22
        · rw [List.map_append]
          exact tk2
        · rcases List.mem_append.mp hr with hr | hr
          · exact hrok r hr
          · rw [List.mem_singleton.mp hr]
            exact ⟨hcs, hmk⟩
      clear L13
      rintro σ H14 ⟨F14, rows, rs, left, L14, hrs, tk, hrn, hrok, epl14, eal14, ekl14, hks14, v5, v8, v12, v13, v14, v15, rfl⟩
      have hrn1 : 1 ≤ rows.length ∧ rows.length ≤ 6 := by omega
      lcg_off
      refine newL L14.hb.fh fun F15 H15 L g15 n15 e15 => ?_
      have L15 := L14.go g15
      refine k F15 H15 L pl kl rl ⟨nm, rf.take np, kp, o, rows⟩ _ L15.g L15.hb L15.h1 ⟨e15, g15.ff _ _ epl14, ⟨ks, g15.ff _ _ ekl14, hks14.mono g15.ff⟩, ⟨rs, L15.h2, hrs.mono g15.ff⟩, ?_⟩ L15.n2 L15.b2 L15.d12.symm rfl
      refine ⟨hnm, ?_, by show (rf.take np).length ≤ 3; omega, ppf, rnd.sublist (List.take_sublist ..), hkn2, fun j q hj => ?_, hoh, ?_, hrn1.2, tk.un, fun r hr => (hrok r hr).1, fun r hr => (hrok r hr).2⟩
      · show rf.take np ≠ []
        intro z
        rw [z] at ppl
        simp at ppl
        omega
      · have hjl := (List.getElem?_eq_some_iff.mp hj).1
        have hjl : j < kp.length := hjl
        have e1 : (kp.map (·.1))[j]? = some q.1 := by rw [List.getElem?_map]; show Option.map _ kp[j]? = _; rw [show kp[j]? = some q from hj]; rfl
        rw [hkf, List.getElem?_take_of_lt (by omega), List.getElem?_drop] at e1
        have hm : q.1 ∈ rf := List.mem_of_getElem? e1
        refine ⟨rff _ hm, ?_, ?_, hks2 j q hj⟩
        · show q.1 ∉ rf.take np
          intro z
          obtain ⟨x, hx, ex⟩ := List.getElem_of_mem z
          have hx' : x < np := by rw [List.length_take] at hx; omega
          have e2 : rf[x]? = some q.1 := by
            rw [← ex, List.getElem_take]
            exact List.getElem?_eq_getElem _
          exact absurd ((List.getElem?_inj (by have := (List.getElem?_eq_some_iff.mp e1).1; omega) rnd).mp (e2.trans e1.symm)) (by omega)
        · show q.1 ∉ (kp.take j).map (·.1)
          intro z
          rw [List.map_take, hkf, List.take_take] at z
          obtain ⟨x, hx, ex⟩ := List.getElem_of_mem z
          have hx' : x < j := by rw [List.length_take] at hx; omega
          have e2 : rf[np + x]? = some q.1 := by
            rw [← ex, List.getElem_take, List.getElem_drop]
            exact List.getElem?_eq_getElem _
          exact absurd ((List.getElem?_inj (by have := (List.getElem?_eq_some_iff.mp e2).1; omega) rnd).mp (e2.trans e1.symm)) (by omega)
      · show rows ≠ []
        intro z
        rw [z] at hrn1
        simp at hrn1
end
end Lb

/-! A whole library's text is read. -/
namespace Lb
open PySem L2 Hk
theorem feed_cons (d : Draft) (x : List Wd) (xs : List (List Wd)) (n : Nat) : feed d (x :: xs) n = match d.takes x with | none => .error n | some d' => feed d' xs (n + 1) := rfl
theorem feed_app : ∀ (xs ys : List (List Wd)) (d : Draft) (n : Nat), feed d (xs ++ ys) n = match feed d xs n with | .error k => .error k | .ok d' => feed d' ys (n + xs.length)
  | [], ys, d, n => by simp [feed]
  | x :: xs, ys, d, n => by
    show feed d (x :: (xs ++ ys)) n = _
    rw [feed_cons, feed_cons]
    cases d.takes x with
    | none => rfl
    | some d' =>
      simp only
      rw [feed_app xs ys d' (n + 1)]
      rw [show n + 1 + xs.length = n + (x :: xs).length by simp; omega]
theorem class_sp {w : Wd} (h : isClassB w = true) : 32 ∉ w ∧ 10 ∉ w := by
  unfold isClassB at h
  rw [Bool.and_eq_true, Bool.and_eq_true, List.all_eq_true, decide_eq_true_iff, decide_eq_true_iff] at h
  obtain ⟨h1, h2, h3⟩ := h
  cases w with
  | nil => simp at h1
  | cons x r =>
    have hx : x ∈ caps := h2
    have hr : ∀ c ∈ r, c ∈ lets := fun c hc => of_decide_eq_true (h3 c hc)
    refine ⟨fun z => ?_, fun z => ?_⟩
    · rcases List.mem_cons.mp z with rfl | z
      · exact absurd hx (by decide)
      · exact absurd (hr 32 z) (by decide)
    · rcases List.mem_cons.mp z with rfl | z
      · exact absurd hx (by decide)
      · exact absurd (hr 10 z) (by decide)
theorem feed_needs : ∀ (ps : List Wd) (d : Draft) (n : Nat), d.name ≠ [] → d.keeping = [] → d.hook = none → d.rows = [] → (∀ p ∈ ps, isFieldB p = true) → (d.parts ++ ps).Nodup → (d.parts ++ ps).length ≤ 3 → feed d ((ps.map fun p => wNeeds ++ [32] ++ p).map wordsL) n = .ok { d with parts := d.parts ++ ps }
  | [], d, n, _, _, _, _, _, _, _ => by simp [feed]
  | p :: ps, d, n, h1, h2, h3, h4, h5, h6, h7 => by
    have hp := h5 p (List.mem_cons_self ..)
    have ew : wordsL (wNeeds ++ [32] ++ p) = [wNeeds, p] := by
      rw [List.append_assoc, wordsL_cons (by decide), wordsL_one (word_sp (isFieldB_word hp)).1]
    have hpn : p ∉ d.parts := by
      intro z
      exact (List.nodup_append.mp h6).2.2 p z p (List.mem_cons_self ..) rfl
    have hnew : d.isNew p = true := by
      unfold Draft.isNew
      rw [hp, h2, decide_eq_false hpn]
      rfl
    have hlen : d.parts.length ≠ 3 := by
      rw [List.length_append, List.length_cons] at h7
      omega
    have ht : d.takes [wNeeds, p] = some { d with parts := d.parts ++ [p] } := by
      unfold Draft.takes
      rw [if_neg h1, if_pos (show ([wNeeds, p] : List Wd).getD 0 [] = wNeeds from rfl)]
      unfold Draft.takesNeeds
      rw [if_neg (by rintro (z | z | z); exact z h2; exact z h3; exact z h4)]
      refine if_neg ?_
      rintro (z | z | z)
      · exact z rfl
      · have : d.isNew p = false := z
        rw [hnew] at this
        cases this
      · exact hlen z
    rw [List.map_cons, List.map_cons, ew]
    unfold feed
    rw [ht]
    simp only
    have e : d.parts ++ [p] ++ ps = d.parts ++ p :: ps := by simp
    have ih := feed_needs ps { d with parts := d.parts ++ [p] } (n + 1) h1 h2 h3 h4 (fun q hq => h5 q (List.mem_cons_of_mem _ hq)) (by show (d.parts ++ [p] ++ ps).Nodup; rw [e]; exact h6) (by show (d.parts ++ [p] ++ ps).length ≤ 3; rw [e]; exact h7)
    rw [ih]
    show Except.ok { d with parts := d.parts ++ [p] ++ ps } = _
    rw [e]
theorem feed_keeps : ∀ (ks : List (Wd × Wd)) (d : Draft) (n : Nat), d.name ≠ [] → d.parts ≠ [] → d.hook = none → d.rows = [] → (d.keeping ++ ks).length ≤ 2 →
    (∀ i q, ks[i]? = some q → isFieldB q.1 = true ∧ q.1 ∉ d.parts ∧ q.1 ∉ (d.keeping ++ ks.take i).map (·.1) ∧ (q.2 ∈ d.parts ∨ q.2 ∈ (d.keeping ++ ks.take i).map (·.1)) ∧ 32 ∉ q.2) →
    feed d ((ks.map fun p => wKeeps ++ [32] ++ p.1 ++ [32] ++ wOf ++ [32] ++ p.2).map wordsL) n = .ok { d with keeping := d.keeping ++ ks }
  | [], d, n, _, _, _, _, _, _ => by simp [feed]
  | k :: ks, d, n, h1, h2, h3, h4, h5, h6 => by
    obtain ⟨k1, k2, k3, k4, k5⟩ := h6 0 k rfl
    rw [List.take_zero, List.append_nil] at k3 k4
    have ew : wordsL (wKeeps ++ [32] ++ k.1 ++ [32] ++ wOf ++ [32] ++ k.2) = [wKeeps, k.1, wOf, k.2] := by
      rw [show wKeeps ++ [32] ++ k.1 ++ [32] ++ wOf ++ [32] ++ k.2 = wKeeps ++ ([32] ++ (k.1 ++ ([32] ++ (wOf ++ ([32] ++ k.2))))) by simp, wordsL_cons (by decide), wordsL_cons (word_sp (isFieldB_word k1)).1, wordsL_cons (by decide), wordsL_one k5]
    have hnew : d.isNew k.1 = true := by
      unfold Draft.isNew
      rw [k1, decide_eq_false k2, decide_eq_false k3]
      rfl
    have hlen : d.keeping.length ≠ 2 := by
      rw [List.length_append, List.length_cons] at h5
      omega
    have ht : d.takes [wKeeps, k.1, wOf, k.2] = some { d with keeping := d.keeping ++ [k] } := by
      unfold Draft.takes
      rw [if_neg h1, show ([wKeeps, k.1, wOf, k.2] : List Wd).getD 0 [] = wKeeps from rfl, if_neg (show ¬ wKeeps = wNeeds by decide), if_neg h2, if_pos rfl]
      unfold Draft.takesKeeps
      rw [if_neg (by rintro (z | z | z); exact z h3; exact z h4; exact hlen z), if_neg (by
        rintro (z | z | z)
        · exact z rfl
        · exact z rfl
        · have : d.isNew k.1 = false := z
          rw [hnew] at this
          cases this)]
      refine if_neg ?_
      rintro ⟨z1, z2⟩
      exact k4.elim z1 z2
    rw [List.map_cons, List.map_cons, ew]
    unfold feed
    rw [ht]
    simp only
    have e : d.keeping ++ [k] ++ ks = d.keeping ++ k :: ks := by simp
    have ih := feed_keeps ks { d with keeping := d.keeping ++ [k] } (n + 1) h1 h2 h3 h4 (by show (d.keeping ++ [k] ++ ks).length ≤ 2; rw [e]; exact h5) (fun i q hq => by
      have := h6 (i + 1) q (by simpa using hq)
      rw [List.take_succ_cons] at this
      have e2 : d.keeping ++ [k] ++ ks.take i = d.keeping ++ k :: ks.take i := by simp
      show isFieldB q.1 = true ∧ q.1 ∉ d.parts ∧ q.1 ∉ (d.keeping ++ [k] ++ ks.take i).map (·.1) ∧ (q.2 ∈ d.parts ∨ q.2 ∈ (d.keeping ++ [k] ++ ks.take i).map (·.1)) ∧ 32 ∉ q.2
      rw [e2]
      exact this)
    rw [ih]
    show Except.ok { d with keeping := d.keeping ++ [k] ++ ks } = _
    rw [e]
/-- rows, the first wrong maker ends them -/
theorem feed_rows : ∀ (rs : List Row3) (d : Draft) (n : Nat), d.name ≠ [] → d.parts ≠ [] → (∀ p ∈ d.parts, isFieldB p = true) → (∀ r ∈ rs, SignOk d.parts r.sign r.changed) → ((d.rows ++ rs).map (·.sign)).Nodup → (d.rows ++ rs).length ≤ 6 →
    ((∀ r ∈ rs, r.maker ∈ mkFor (arityN r.sign) d.hook.isSome) → feed d ((rs.map Row3.line).map wordsL) n = .ok { d with rows := d.rows ++ rs }) ∧
    ((∃ r ∈ rs, r.maker ∉ mkFor (arityN r.sign) d.hook.isSome) → ∃ k, feed d ((rs.map Row3.line).map wordsL) n = .error k)
  | [], d, n, _, _, _, _, _, _ => ⟨fun _ => by simp [feed], fun ⟨r, hr, _⟩ => by cases hr⟩
  | r :: rs, d, n, h1, h2, h3, h4, h5, h6 => by
    have ht : d.takes (wordsL r.line) = d.takesRow r.sign r.changed r.maker := takes_row r.maker h1 h2 h3 (h4 r (List.mem_cons_self ..))
    have hsn : r.sign ∉ d.rows.map (·.sign) := by
      intro z
      rw [List.map_append] at h5
      exact (List.nodup_append.mp h5).2.2 _ z r.sign (by simp) rfl
    have hlen : d.rows.length ≠ 6 := by
      rw [List.length_append, List.length_cons] at h6
      omega
    have h0 : d.takesRow r.sign r.changed r.maker = if r.maker ∉ mkFor (arityN r.sign) d.hook.isSome then none else some { d with rows := d.rows ++ [r] } := by
      unfold Draft.takesRow
      rw [if_neg (by rintro (z | z); exact hsn z; exact hlen z)]
    have e : d.rows ++ [r] ++ rs = d.rows ++ r :: rs := by simp
    have ih := feed_rows rs { d with rows := d.rows ++ [r] } (n + 1) h1 h2 h3 (fun q hq => h4 q (List.mem_cons_of_mem _ hq)) (by show ((d.rows ++ [r] ++ rs).map (·.sign)).Nodup; rw [e]; exact h5) (by show (d.rows ++ [r] ++ rs).length ≤ 6; rw [e]; exact h6)
    rw [List.map_cons, List.map_cons]
    refine ⟨fun h => ?_, fun h => ?_⟩
    · unfold feed
      rw [ht, h0, if_neg (fun z => z (h r (List.mem_cons_self ..)))]
      simp only
      rw [ih.1 fun q hq => h q (List.mem_cons_of_mem _ hq)]
      show Except.ok { d with rows := d.rows ++ [r] ++ rs } = _
      rw [e]
    · unfold feed
      rw [ht, h0]
      by_cases hm : r.maker ∈ mkFor (arityN r.sign) d.hook.isSome
      · rw [if_neg (fun z => z hm)]
        simp only
        obtain ⟨q, hq, hqm⟩ := h
        rcases List.mem_cons.mp hq with rfl | hq
        · exact absurd hm hqm
        · exact ih.2 ⟨q, hq, hqm⟩
      · rw [if_pos hm]
        exact ⟨n, rfl⟩
/-- the draft ahead of the operations -/
def Draft.bald (d : Draft) : Draft := { d with rows := [] }
theorem feed_heads {d : Draft} (h : d.Lib) : feed .empty (d.heads.map wordsL) 0 = .ok d.bald := by
  have hn := h.nm
  have hsp := class_sp hn
  have hne : d.name ≠ [] := by
    intro z
    rw [z] at hn
    exact absurd hn (by decide)
  unfold Draft.heads
  rw [List.map_append, List.map_append, List.map_append, feed_app, feed_app, feed_app]
  have e1 : feed .empty ([wLibrary ++ [32] ++ d.name].map wordsL) 0 = .ok { Draft.empty with name := d.name } := by
    have ew : wordsL (wLibrary ++ [32] ++ d.name) = [wLibrary, d.name] := by
      rw [List.append_assoc, wordsL_cons (by decide), wordsL_one hsp.1]
    show feed .empty [wordsL (wLibrary ++ [32] ++ d.name)] 0 = _
    rw [ew]
    unfold feed
    have ht : Draft.empty.takes [wLibrary, d.name] = some { Draft.empty with name := d.name } := by
      unfold Draft.takes
      rw [if_pos (show Draft.empty.name = [] from rfl)]
      refine if_neg ?_
      rintro (z | z | z)
      · exact z rfl
      · exact z rfl
      · have : isClassB d.name = false := z
        rw [hn] at this
        cases this
    rw [ht]
    rfl
  rw [e1]
  simp only
  rw [feed_needs d.parts { Draft.empty with name := d.name } _ hne rfl rfl rfl h.pf (by simpa [Draft.empty] using h.pn) (by simpa [Draft.empty] using h.pl)]
  simp only
  have hk : feed { ({ Draft.empty with name := d.name } : Draft) with parts := ({ Draft.empty with name := d.name } : Draft).parts ++ d.parts } ((d.keeping.map fun p => wKeeps ++ [32] ++ p.1 ++ [32] ++ wOf ++ [32] ++ p.2).map wordsL) (0 + ([wLibrary ++ [32] ++ d.name].map wordsL ++ (d.parts.map fun p => wNeeds ++ [32] ++ p).map wordsL).length) = .ok ⟨d.name, d.parts, d.keeping, none, []⟩ := by
    have := feed_keeps d.keeping { ({ Draft.empty with name := d.name } : Draft) with parts := ({ Draft.empty with name := d.name } : Draft).parts ++ d.parts } (0 + ([wLibrary ++ [32] ++ d.name].map wordsL ++ (d.parts.map fun p => wNeeds ++ [32] ++ p).map wordsL).length) hne (by simpa [Draft.empty] using h.p0) rfl rfl (by simpa [Draft.empty] using h.kl) (fun i q hq => by
      obtain ⟨z1, z2, z3, z4⟩ := h.kf i q hq
      refine ⟨z1, by simpa [Draft.empty] using z2, by simpa [Draft.empty] using z3, by simpa [Draft.empty] using z4, ?_⟩
      rcases z4 with z4 | z4
      · exact (word_sp (isFieldB_word (h.pf _ z4))).1
      · obtain ⟨y, hy, ey⟩ := List.mem_map.mp z4
        obtain ⟨j, hj⟩ := List.getElem?_of_mem (List.mem_of_mem_take hy)
        rw [← ey]
        exact (word_sp (isFieldB_word (h.kf j y hj).1)).1)
    rw [this]
    simp [Draft.empty]
  rw [hk]
  simp only
  cases e : d.hook with
  | none =>
    simp only [List.map_nil, feed]
    unfold Draft.bald
    rw [e]
  | some x =>
    have hx := h.hk x e
    have hxs : 32 ∉ x := by
      rcases hx with hx | hx
      · exact (by decide : ∀ w ∈ hooks, 32 ∉ w) x hx
      · rw [hx]; decide
    have ew : wordsL (wHook ++ [32] ++ x) = [wHook, x] := by
      rw [List.append_assoc, wordsL_cons (by decide), wordsL_one hxs]
    simp only [List.map_cons, List.map_nil]
    rw [ew]
    unfold feed
    have ht : (⟨d.name, d.parts, d.keeping, none, []⟩ : Draft).takes [wHook, x] = some ⟨d.name, d.parts, d.keeping, some x, []⟩ := by
      unfold Draft.takes
      rw [if_neg hne, show ([wHook, x] : List Wd).getD 0 [] = wHook from rfl, if_neg (show ¬ wHook = wNeeds by decide), if_neg h.p0, if_neg (show ¬ wHook = wKeeps by decide), if_pos rfl]
      unfold Draft.takesHook
      rw [if_neg (by rintro (z | z | z); exact z rfl; exact z rfl; exact z rfl)]
      refine if_neg ?_
      rintro ⟨z1, z2⟩
      exact hx.elim z1 z2
    rw [ht]
    simp only [feed]
    unfold Draft.bald
    rw [e]
/-- a line holds no line feed -/
theorem line_nl {d : Draft} (h : d.Lib) (rs : List Row3) (hs : ∀ r ∈ rs, SignOk d.parts r.sign r.changed ∧ 10 ∉ r.maker) : ∀ l ∈ d.heads ++ rs.map Row3.line, 10 ∉ l := by
  intro l hl
  have lit : ∀ w ∈ [wLibrary, wNeeds, wKeeps, wOf, wHook, wMake, wBy, wChanges, [32]], 10 ∉ w := by decide
  have app : ∀ {x y : Wd}, 10 ∉ x → 10 ∉ y → 10 ∉ x ++ y := fun h1 h2 z => (List.mem_append.mp z).elim h1 h2
  have l1 := lit wLibrary (by simp)
  have l2 := lit wNeeds (by simp)
  have l3 := lit wKeeps (by simp)
  have l4 := lit wOf (by simp)
  have l5 := lit wHook (by simp)
  have l6 := lit wMake (by simp)
  have l7 := lit wBy (by simp)
  have l8 := lit wChanges (by simp)
  have l9 := lit [32] (by simp)
  rcases List.mem_append.mp hl with hl | hl
  · unfold Draft.heads at hl
    rcases List.mem_append.mp hl with hl | hl
    · rcases List.mem_append.mp hl with hl | hl
      · rcases List.mem_append.mp hl with hl | hl
        · rw [List.mem_singleton.mp hl]
          exact app (app l1 l9) (class_sp h.nm).2
        · obtain ⟨q, hq, rfl⟩ := List.mem_map.mp hl
          exact app (app l2 l9) (word_sp (isFieldB_word (h.pf q hq))).2
      · obtain ⟨q, hq, rfl⟩ := List.mem_map.mp hl
        obtain ⟨j, hj⟩ := List.getElem?_of_mem hq
        obtain ⟨z1, z2, z3, z4⟩ := h.kf j q hj
        have z5 : 10 ∉ q.2 := by
          rcases z4 with z4 | z4
          · exact (word_sp (isFieldB_word (h.pf _ z4))).2
          · obtain ⟨y, hy, ey⟩ := List.mem_map.mp z4
            obtain ⟨j, hj⟩ := List.getElem?_of_mem (List.mem_of_mem_take hy)
            rw [← ey]
            exact (word_sp (isFieldB_word (h.kf j y hj).1)).2
        exact app (app (app (app (app (app l3 l9) (word_sp (isFieldB_word z1)).2) l9) l4) l9) z5
    · cases e : d.hook with
      | none => rw [e] at hl; cases hl
      | some x =>
        rw [e] at hl
        rw [List.mem_singleton.mp hl]
        refine app (app l5 l9) ?_
        rcases h.hk x e with hx | hx
        · exact (by decide : ∀ w ∈ hooks, 10 ∉ w) x hx
        · rw [hx]; decide
  · obtain ⟨r, hr, rfl⟩ := List.mem_map.mp hl
    obtain ⟨h1, h2⟩ := hs r hr
    have hsg : 10 ∉ r.sign := by
      rcases h1 with ⟨e, _⟩ | ⟨e, _⟩
      · exact (sign_sp _ (List.mem_append.mpr e)).2.1
      · exact (word_sp e).2
    have hch : 10 ∉ spaced r.changed := by
      intro z
      have : ∀ {ws : List Wd}, 10 ∈ TL.joinL [32] ws → ∃ w ∈ ws, 10 ∈ w := by
        intro ws
        induction ws with
        | nil => intro z; cases z
        | cons w ws ih =>
          cases ws with
          | nil => intro z; exact ⟨w, by simp, z⟩
          | cons v vs =>
            intro z
            have z : 10 ∈ w ++ ([32] ++ TL.joinL [32] (v :: vs)) := z
            rcases List.mem_append.mp z with z | z
            · exact ⟨w, by simp, z⟩
            · rcases List.mem_append.mp z with z | z
              · exact absurd z (by decide)
              · obtain ⟨y, hy, hz⟩ := ih z
                exact ⟨y, List.mem_cons_of_mem _ hy, hz⟩
      obtain ⟨w, hw, hz⟩ := this z
      have hw' : w ∈ d.parts := by
        rcases h1 with ⟨_, e⟩ | ⟨_, _, _, e⟩
        · rw [e] at hw
          exact (List.mem_filter.mp hw).1
        · rw [e] at hw
          exact hw
      exact (word_sp (isFieldB_word (h.pf w hw'))).2 hz
    unfold Row3.line
    split
    · exact app (app (app (app (app (app l6 l9) hsg) l9) l7) l9) h2
    · split
      · exact app (app (app (app hsg l9) l7) l9) h2
      · exact app (app (app (app (app (app (app (app hsg l9) l8) l9) hch) l9) l7) l9) h2
/-- the text of a library whose rows' makers may be others -/
theorem read_rows {d : Draft} (h : d.Lib) (rs : List Row3) (h0 : rs ≠ []) (hs : ∀ r ∈ rs, SignOk d.parts r.sign r.changed ∧ 10 ∉ r.maker) (hn : (rs.map (·.sign)).Nodup) (hl : rs.length ≤ 6) :
    ((∀ r ∈ rs, r.maker ∈ mkFor (arityN r.sign) d.hook.isSome) → readL (TL.joinL [10] (d.heads ++ rs.map Row3.line)) = .ok { d with rows := rs }) ∧
    ((∃ r ∈ rs, r.maker ∉ mkFor (arityN r.sign) d.hook.isSome) → ∃ k, readL (TL.joinL [10] (d.heads ++ rs.map Row3.line)) = .error k) := by
  have hne : d.name ≠ [] := by
    intro z
    have := h.nm
    rw [z] at this
    exact absurd this (by decide)
  have hsp : splitL 10 (TL.joinL [10] (d.heads ++ rs.map Row3.line)) = d.heads ++ rs.map Row3.line := TL.spl_join (by simp [h0]) (line_nl h rs hs)
  have hf := feed_rows rs d.bald (0 + (d.heads.map wordsL).length) hne h.p0 h.pf (fun r hr => (hs r hr).1) (by simpa [Draft.bald] using hn) (by simpa [Draft.bald] using hl)
  have e : feed .empty ((splitL 10 (TL.joinL [10] (d.heads ++ rs.map Row3.line))).map (splitL 32)) 0 = feed d.bald ((rs.map Row3.line).map wordsL) (0 + (d.heads.map wordsL).length) := by
    rw [hsp, List.map_append]
    show feed .empty (d.heads.map wordsL ++ (rs.map Row3.line).map wordsL) 0 = _
    rw [feed_app, feed_heads h]
  unfold readL
  rw [e]
  refine ⟨fun hm => ?_, fun hm => ?_⟩
  · rw [hf.1 hm]
    show (if ([] ++ rs : List Row3) = [] then _ else _) = _
    rw [List.nil_append, if_neg h0]
    rfl
  · obtain ⟨k, hk⟩ := hf.2 hm
    rw [hk]
    exact ⟨k, rfl⟩
end Lb

namespace Lb
open PySem L2 Hk
theorem kv_in {K : PySem.W.Frag} {F : Hp} {kvs : List (Key × V)} {rows : List Row3} {f : Row3 → PyData} (h : KvOk K F kvs rows f) (s : Wd) : (valV kvs (.inr (tx s) : Key)).isSome = decide (s ∈ rows.map (·.sign)) := by
  rw [← valV_any]
  have e : (kvs.any fun kv => decide (kv.1 = (.inr (tx s) : Key))) = (kvs.map (·.1)).any fun k => decide (k = (.inr (tx s) : Key)) := by rw [List.any_map]; rfl
  rw [e, h.1, List.any_map]
  by_cases hs : s ∈ rows.map (·.sign)
  · obtain ⟨r, hr, rfl⟩ := List.mem_map.mp hs
    rw [decide_eq_true hs]
    exact List.any_eq_true.mpr ⟨r, hr, by simp⟩
  · rw [decide_eq_false hs]
    refine List.any_eq_false.mpr fun r hr z => hs ?_
    have z := of_decide_eq_true z
    have z := tx_inj.mp (Sum.inr.inj z)
    exact List.mem_map.mpr ⟨r, hr, z⟩
theorem Draft.Lib.wf {d : Draft} (h : d.Lib) : d.Wf := by
  have fw : ∀ {w : Wd}, isFieldB w = true → OkW 8 w := fun hw => ⟨isWordB_ok (isFieldB_word hw), isWordB_len (isFieldB_word hw)⟩
  have cw : OkW 8 d.name := by
    refine ⟨?_, isClassB_len h.nm⟩
    have := h.nm
    unfold isClassB at this
    rw [Bool.and_eq_true, Bool.and_eq_true, List.all_eq_true, decide_eq_true_iff, decide_eq_true_iff] at this
    obtain ⟨h1, h2, h3⟩ := this
    cases hn : d.name with
    | nil => exact okT_nil
    | cons x r =>
      rw [hn] at h2 h3
      intro c hc
      rcases List.mem_cons.mp hc with rfl | z
      · exact (by decide : ∀ c ∈ caps, c < 128) _ h2
      · exact (by decide : ∀ c ∈ lets, c < 128) c (of_decide_eq_true (h3 c z))
  have kn : ∀ q ∈ d.keeping, isFieldB q.1 = true := fun q hq => by
    obtain ⟨j, hj⟩ := List.getElem?_of_mem hq
    exact (h.kf j q hj).1
  refine ⟨cw, h.pl, fun w hw => fw (h.pf w hw), h.kl, fun q hq => ⟨fw (kn q hq), ?_⟩, fun x hx => ?_, h.rl, fun r hr => ?_, h.rn⟩
  · obtain ⟨j, hj⟩ := List.getElem?_of_mem hq
    rcases (h.kf j q hj).2.2.2 with z | z
    · exact fw (h.pf _ z)
    · obtain ⟨y, hy, ey⟩ := List.mem_map.mp z
      rw [← ey]
      exact fw (kn y (List.mem_of_mem_take hy))
  · rcases h.hk x hx with z | z
    · exact (by unfold OkW okT; decide : ∀ w ∈ hooks, OkW 8 w) x z
    · rw [z]
      exact (by unfold OkW okT; decide : OkW 8 wBare)
  · have hm := mkAll_ok (List.mem_filter.mp (h.rm r hr)).1
    have hs := h.rs r hr
    have hc : ∀ w ∈ r.changed, w ∈ d.parts := fun w hw => by
      rcases hs with ⟨_, e⟩ | ⟨_, _, _, e⟩
      · rw [e] at hw; exact (List.mem_filter.mp hw).1
      · rw [e] at hw; exact hw
    refine ⟨?_, ?_, fun w hw => fw (h.pf w (hc w hw)), hm⟩
    · rcases hs with ⟨e, _⟩ | ⟨e, _⟩
      · exact signs_ok _ (List.mem_append.mpr e)
      · exact ⟨isWordB_ok e, isWordB_len e⟩
    · rcases hs with ⟨_, e⟩ | ⟨_, _, _, e⟩
      · rw [e]
        exact Nat.le_trans (List.length_filter_le _ _) h.pl
      · rw [e]; exact h.pl
def setMk (s m : Wd) (r : Row3) : Row3 := if r.sign = s then { r with maker := m } else r
theorem setMk_sign (s m : Wd) (rs : List Row3) : (rs.map (setMk s m)).map (·.sign) = rs.map (·.sign) := by
  rw [List.map_map]
  refine List.map_congr_left fun r _ => ?_
  show (setMk s m r).sign = r.sign
  unfold setMk
  split <;> rfl
theorem setMk_wf {d : Draft} {s m : Wd} (h : d.Wf) (hm : OkW 20 m) : ({ d with rows := d.rows.map (setMk s m) } : Draft).Wf := by
  refine { h with rl := ?_, rw := fun r hr => ?_, rn := ?_ }
  · show (d.rows.map (setMk s m)).length ≤ 6
    rw [List.length_map]; exact h.rl
  · obtain ⟨q, hq, rfl⟩ := List.mem_map.mp hr
    have := h.rw q hq
    unfold setMk
    split
    · exact { this with m := hm }
    · exact this
  · show ((d.rows.map (setMk s m)).map (·.sign)).Nodup
    rw [setMk_sign]; exact h.rn
local macro_rules | `(tactic| array_mem_dec) => `(tactic| with_reducible first
  | assumption | exact upd_same
  | (apply upd_new; assumption; array_mem_dec)
  | (apply upd_old; tlg_ne; array_mem_dec)
  | (apply same_at; assumption; array_mem_dec))
local macro_rules | `(tactic| tlg_ne) => `(tactic| with_reducible first
  | assumption | (apply Ne.symm; assumption)
  | (apply ne_new; assumption; array_mem_dec) | (apply ne_new'; assumption; array_mem_dec)
  | (apply ne_of; assumption; assumption; (with_unfolding_all (intro z; cases z; done))))
local macro_rules | `(tactic| decreasing_trivial_pre_omega) => `(tactic| with_reducible first
  | assumption | (apply sqL_of; array_mem_dec) | (apply sqT_of; array_mem_dec)
  | (apply Same.seq; assumption; decreasing_trivial_pre_omega) | (apply sqT_same; assumption; decreasing_trivial_pre_omega)
  | (apply sqL_new; assumption; decreasing_trivial_pre_omega) | (apply sqL_upd; tlg_ne; decreasing_trivial_pre_omega))
local macro_rules | `(tactic| kpt_turns) => `(tactic| with_reducible first
  | assumption | exact Same.refl _ | (apply same_ext; kpt_turns; assumption) | (apply same_mut; kpt_turns; keq_hits) | (apply same_step; assumption; kpt_turns))
local macro_rules | `(tactic| keq_hits) => `(tactic| with_reducible first | assumption | (apply same_none; assumption; keq_hits))
local macro_rules | `(tactic| sizeOf_list_dec) => `(tactic| first | (with_reducible assumption) | (with_reducible_and_instances omega) | (with_unfolding_all decide))
local macro_rules | `(tactic| array_get_dec) => `(tactic| first | (with_reducible assumption) | (apply sz_of; (with_unfolding_all simp); done) | (apply sz_of; omega) | (apply sz_lt; (with_unfolding_all simp); done) | (apply sz_lt; omega))
local macro_rules | `(tactic| keq_rows) => `(tactic| with_reducible first
  | apply rd_asgN | apply rd_seq | apply rd_parA | apply rd_par3A | apply rd_par2 | apply rd_par3 | apply rd_m1 | apply rd_isStr | apply rd_cval | apply rd_asg | apply rd_gname | apply rd_op | (show tVar _ _ _ _; refine rd_var (by with_unfolding_all rfl) ?_) | apply rd_c | apply rd_I0
  | apply rd_cons | apply rd_nil | apply rd_cb | apply rd_test | apply rd_bl | apply rd_fld | apply rd_drop | apply rd_ret | apply rd_retN | apply rd_next
  | apply rd_ifS | apply rd_un | apply rd_B | apply rd_and | apply rd_or | apply rd_not | apply rd_andV | apply rd_orV | apply rd_notV | apply rd_if
  | apply rd_int | apply rd_abs | apply rd_max | apply rd_min | apply rd_strS | apply rd_U
  | apply rd_eqTx | apply rd_neTx | apply rd_inTx | apply rd_notInTx | apply rd_fmt | (show FmtK (.str (tx _)) _ _; refine rd_fmtT (by omega) ?_) | apply rd_jsC | apply rd_jsN | (show JsK _ (tx _) _ (.str (tx _)) _ _; refine rd_JsK (by first | omega | (simp; done) | (simp; omega)) ?_) | (show rAddStr (.str (tx _)) (.str (tx _)) _ _; refine rd_addT (by first | omega | (simp; done) | (simp; omega)) ?_) | (show rLenStr [.str (tx _)] _ _; refine rd_lenTx (by omega) ?_)
  | (show rEq _ _ _ _; refine rd_eq (by with_unfolding_all rfl) ?_) | (show rNe _ _ _ _; refine rd_ne (by with_unfolding_all rfl) ?_) | apply rd_isNone | apply rd_notNone
  | (show rIxL _ _ _ _ _; refine rd_ixL (by decreasing_trivial_pre_omega) (by with_unfolding_all rfl) ?_) | (show rIxT _ _ _ _ _; refine rd_ixT (by decreasing_trivial_pre_omega) (by with_unfolding_all rfl) ?_)
  | (show rLenSeq _ _ _ _; refine rd_lenL (by decreasing_trivial_pre_omega) ?_) | (show rLenSeq _ _ _ _; refine rd_lenT (by decreasing_trivial_pre_omega) ?_)
  | (show rI _ _ _ _ _ _; refine rd_mod (by sizeOf_list_dec) ?_) | (show rI _ _ _ _ _ _; refine rd_div (by sizeOf_list_dec) (by sizeOf_list_dec) ?_) | (show rI _ _ _ _ _ _; refine rd_mulR (by sizeOf_list_dec) (by sizeOf_list_dec) ?_) | (show rI _ _ _ _ _ _; refine rd_mulL (by sizeOf_list_dec) (by sizeOf_list_dec) ?_) | (show rI _ _ _ _ _ _; refine rd_pow (by sizeOf_list_dec) ?_)
  | (show rSetL _ _ _ _ _; refine rd_setL (by array_mem_dec) (by with_unfolding_all rfl) ?_)
  | apply rd_inSign | apply rd_notInSign | apply rd_tupK | apply rd_lstK | apply rd_sl | apply rd_noPart | apply rd_part | apply rd_isInt
  | apply rd_gsub | apply rd_gcons | apply rd_gnil | apply rd_call | apply rd_meth | apply rd_make | apply rd_smeth | apply rd_isC | apply rd_smethK | apply rd_cmeth | apply rd_cmethK
  | apply rd_bm | apply rd_bm0 | (show BmK _ _ _ _ _ _ _ _; refine rd_bmL (by array_mem_dec) ?_) | (show Bm0K _ _ _ _ _ _; refine rd_bm0L (by array_mem_dec) ?_) | apply rd_sfld | apply rd_aug | apply rd_rAdd | apply rd_brk | apply rd_cont
  | apply rd_for | apply rd_iList | (show IList _ _ _ _; refine rd_IList (by decreasing_trivial_pre_omega) ?_) | apply rd_iTup | (show ITup _ _ _ _; refine rd_ITup (by decreasing_trivial_pre_omega) ?_) | apply rd_iEnum | (show IEnum _ _ _ _; refine rd_IEnum (by decreasing_trivial_pre_omega) ?_) | apply rd_iRng1 | (show IRng1 _ _ _; refine rd_IRng1 (by sizeOf_list_dec) (by sizeOf_list_dec) ?_)
  | (show rLenStr _ _ _; refine rd_lenS (by array_get_dec) ?_) | (show rAddStr _ _ _ _; refine rd_addS (by array_get_dec) ?_) | (show rSlS _ _ _ _ _; refine rd_slS (by array_get_dec) ?_) | apply rd_lc | apply rd_yes | (show gTup _ _ _ _ _ _ _; refine rd_gtup (by decreasing_trivial_pre_omega) (by with_unfolding_all rfl) ?_) | (show tMakeL _ _ _ _ _ _ _ _; refine rd_makeL (by with_unfolding_all rfl) ?_))
local macro_rules | `(tactic| kas_types) => `(tactic| with_reducible first | apply rd_isi_int_int | apply rd_isi_int_bool | apply rd_isi_int_str | apply rd_isi_int_list | apply rd_isi_int_tuple | apply rd_isi_bool_int | apply rd_isi_bool_bool | apply rd_isi_bool_str | apply rd_isi_bool_list | apply rd_isi_bool_tuple | apply rd_isi_str_int | apply rd_isi_str_bool | apply rd_isi_str_str | apply rd_isi_str_list | apply rd_isi_str_tuple | (show rIsi _ _ _ _; refine rd_isi_list_int (by array_mem_dec) ?_) | (show rIsi _ _ _ _; refine rd_isi_list_bool (by array_mem_dec) ?_) | (show rIsi _ _ _ _; refine rd_isi_list_str (by array_mem_dec) ?_) | (show rIsi _ _ _ _; refine rd_isi_list_list (by array_mem_dec) ?_) | (show rIsi _ _ _ _; refine rd_isi_list_tuple (by array_mem_dec) ?_) | (show rIsi _ _ _ _; refine rd_isi_tuple_int (by array_mem_dec) ?_) | (show rIsi _ _ _ _; refine rd_isi_tuple_bool (by array_mem_dec) ?_) | (show rIsi _ _ _ _; refine rd_isi_tuple_str (by array_mem_dec) ?_) | (show rIsi _ _ _ _; refine rd_isi_tuple_list (by array_mem_dec) ?_) | (show rIsi _ _ _ _; refine rd_isi_tuple_tuple (by array_mem_dec) ?_) | apply rd_isi_NoneType_int | apply rd_isi_NoneType_bool | apply rd_isi_NoneType_str | apply rd_isi_NoneType_list | apply rd_isi_NoneType_tuple)
local macro_rules | `(tactic| lcg_src) => `(tactic| repeat keq_rows)

local macro_rules | `(tactic| lcg_sub) => `(tactic| with_reducible first | apply rd_chain | apply rd_din | apply rd_raiseO)
local macro_rules | `(tactic| lcg_off) => `(tactic| repeat (first | keq_rows | lcg_sub))
section
variable {P : Program} {w : World} {K : PySem.W.Frag} {mg : Str → Option Value} {base : Heap} {a : Ad}
end
end Lb

namespace Lb
open PySem L2 Hk
theorem prow_inv {K : PySem.W.Frag} {H : Hp} {v : V} {r : Row3} (h : Dp K H v (prowD r)) : ∃ t c, v = .ref t ∧ SqL K H t [.str (tx r.sign), .ref c, .str (tx r.maker), .int (arityN r.sign : Nat)] ∧ SqL K H c (r.changed.map wd) := by
  obtain ⟨t, xs, rfl, hs, ha⟩ := h.list_inv
  cases ha with
  | cons h1 h2 =>
    cases h2 with
    | cons h3 h4 =>
      cases h4 with
      | cons h5 h6 =>
        cases h6 with
        | cons h7 h8 =>
          cases h8
          obtain rfl := h1.str_inv
          obtain rfl := h5.str_inv
          obtain rfl := h7.int_inv
          obtain ⟨c, ys, rfl, hc, hy⟩ := h3.list_inv
          refine ⟨t, c, rfl, hs, ?_⟩
          have e : ys = r.changed.map wd := by
            have : ∀ ws : List Wd, flAll (ws.map wdD) = some (ws.map wd) := by
              intro ws
              induction ws with
              | nil => rfl
              | cons x xs ih => rw [List.map_cons, List.map_cons]; unfold flAll; rw [ih]; rfl
            exact flAll_inv (this r.changed) hy
          rw [e] at hc
          exact hc
local macro_rules | `(tactic| array_mem_dec) => `(tactic| with_reducible first
  | assumption | exact upd_same
  | (apply upd_new; assumption; array_mem_dec)
  | (apply upd_old; tlg_ne; array_mem_dec)
  | (apply same_at; assumption; array_mem_dec))
local macro_rules | `(tactic| tlg_ne) => `(tactic| with_reducible first
  | assumption | (apply Ne.symm; assumption)
  | (apply ne_new; assumption; array_mem_dec) | (apply ne_new'; assumption; array_mem_dec)
  | (apply ne_of; assumption; assumption; (with_unfolding_all (intro z; cases z; done))))
local macro_rules | `(tactic| decreasing_trivial_pre_omega) => `(tactic| with_reducible first
  | assumption | (apply sqL_of; array_mem_dec) | (apply sqT_of; array_mem_dec)
  | (apply Same.seq; assumption; decreasing_trivial_pre_omega) | (apply sqT_same; assumption; decreasing_trivial_pre_omega)
  | (apply sqL_new; assumption; decreasing_trivial_pre_omega) | (apply sqL_upd; tlg_ne; decreasing_trivial_pre_omega))
local macro_rules | `(tactic| kpt_turns) => `(tactic| with_reducible first
  | assumption | exact Same.refl _ | (apply same_ext; kpt_turns; assumption) | (apply same_mut; kpt_turns; keq_hits) | (apply same_step; assumption; kpt_turns))
local macro_rules | `(tactic| keq_hits) => `(tactic| with_reducible first | assumption | (apply same_none; assumption; keq_hits))
local macro_rules | `(tactic| sizeOf_list_dec) => `(tactic| first | (with_reducible assumption) | (with_reducible_and_instances omega) | (with_unfolding_all decide))
local macro_rules | `(tactic| array_get_dec) => `(tactic| first | (with_reducible assumption) | (apply sz_of; (with_unfolding_all simp); done) | (apply sz_of; omega) | (apply sz_lt; (with_unfolding_all simp); done) | (apply sz_lt; omega))
local macro_rules | `(tactic| keq_rows) => `(tactic| with_reducible first
  | apply rd_asgN | apply rd_seq | apply rd_parA | apply rd_par3A | apply rd_par2 | apply rd_par3 | apply rd_m1 | apply rd_isStr | apply rd_cval | apply rd_asg | apply rd_gname | apply rd_op | (show tVar _ _ _ _; refine rd_var (by with_unfolding_all rfl) ?_) | apply rd_c | apply rd_I0
  | apply rd_cons | apply rd_nil | apply rd_cb | apply rd_test | apply rd_bl | apply rd_fld | apply rd_drop | apply rd_ret | apply rd_retN | apply rd_next
  | apply rd_ifS | apply rd_un | apply rd_B | apply rd_and | apply rd_or | apply rd_not | apply rd_andV | apply rd_orV | apply rd_notV | apply rd_if
  | apply rd_int | apply rd_abs | apply rd_max | apply rd_min | apply rd_strS | apply rd_U
  | apply rd_eqTx | apply rd_neTx | apply rd_inTx | apply rd_notInTx | apply rd_fmt | (show FmtK (.str (tx _)) _ _; refine rd_fmtT (by omega) ?_) | apply rd_jsC | apply rd_jsN | (show JsK _ (tx _) _ (.str (tx _)) _ _; refine rd_JsK (by first | omega | (simp; done) | (simp; omega)) ?_) | (show rAddStr (.str (tx _)) (.str (tx _)) _ _; refine rd_addT (by first | omega | (simp; done) | (simp; omega)) ?_) | (show rLenStr [.str (tx _)] _ _; refine rd_lenTx (by omega) ?_)
  | (show rEq _ _ _ _; refine rd_eq (by with_unfolding_all rfl) ?_) | (show rNe _ _ _ _; refine rd_ne (by with_unfolding_all rfl) ?_) | apply rd_isNone | apply rd_notNone
  | (show rIxL _ _ _ _ _; refine rd_ixL (by decreasing_trivial_pre_omega) (by with_unfolding_all rfl) ?_) | (show rIxT _ _ _ _ _; refine rd_ixT (by decreasing_trivial_pre_omega) (by with_unfolding_all rfl) ?_)
  | (show rLenSeq _ _ _ _; refine rd_lenL (by decreasing_trivial_pre_omega) ?_) | (show rLenSeq _ _ _ _; refine rd_lenT (by decreasing_trivial_pre_omega) ?_)
  | (show rI _ _ _ _ _ _; refine rd_mod (by sizeOf_list_dec) ?_) | (show rI _ _ _ _ _ _; refine rd_div (by sizeOf_list_dec) (by sizeOf_list_dec) ?_) | (show rI _ _ _ _ _ _; refine rd_mulR (by sizeOf_list_dec) (by sizeOf_list_dec) ?_) | (show rI _ _ _ _ _ _; refine rd_mulL (by sizeOf_list_dec) (by sizeOf_list_dec) ?_) | (show rI _ _ _ _ _ _; refine rd_pow (by sizeOf_list_dec) ?_)
  | (show rSetL _ _ _ _ _; refine rd_setL (by array_mem_dec) (by with_unfolding_all rfl) ?_)
  | apply rd_inSign | apply rd_notInSign | apply rd_tupK | apply rd_lstK | apply rd_sl | apply rd_noPart | apply rd_part | apply rd_isInt
  | apply rd_gsub | apply rd_gcons | apply rd_gnil | apply rd_call | apply rd_meth | apply rd_make | apply rd_smeth | apply rd_isC | apply rd_smethK | apply rd_cmeth | apply rd_cmethK
  | apply rd_bm | apply rd_bm0 | (show BmK _ _ _ _ _ _ _ _; refine rd_bmL (by array_mem_dec) ?_) | (show Bm0K _ _ _ _ _ _; refine rd_bm0L (by array_mem_dec) ?_) | apply rd_sfld | apply rd_aug | apply rd_rAdd | apply rd_brk | apply rd_cont
  | apply rd_for | apply rd_iList | (show IList _ _ _ _; refine rd_IList (by decreasing_trivial_pre_omega) ?_) | apply rd_iTup | (show ITup _ _ _ _; refine rd_ITup (by decreasing_trivial_pre_omega) ?_) | apply rd_iEnum | (show IEnum _ _ _ _; refine rd_IEnum (by decreasing_trivial_pre_omega) ?_) | apply rd_iRng1 | (show IRng1 _ _ _; refine rd_IRng1 (by sizeOf_list_dec) (by sizeOf_list_dec) ?_)
  | (show rLenStr _ _ _; refine rd_lenS (by array_get_dec) ?_) | (show rAddStr _ _ _ _; refine rd_addS (by array_get_dec) ?_) | (show rSlS _ _ _ _ _; refine rd_slS (by array_get_dec) ?_) | apply rd_lc | apply rd_yes | (show gTup _ _ _ _ _ _ _; refine rd_gtup (by decreasing_trivial_pre_omega) (by with_unfolding_all rfl) ?_) | (show tMakeL _ _ _ _ _ _ _ _; refine rd_makeL (by with_unfolding_all rfl) ?_))
local macro_rules | `(tactic| kas_types) => `(tactic| with_reducible first | apply rd_isi_int_int | apply rd_isi_int_bool | apply rd_isi_int_str | apply rd_isi_int_list | apply rd_isi_int_tuple | apply rd_isi_bool_int | apply rd_isi_bool_bool | apply rd_isi_bool_str | apply rd_isi_bool_list | apply rd_isi_bool_tuple | apply rd_isi_str_int | apply rd_isi_str_bool | apply rd_isi_str_str | apply rd_isi_str_list | apply rd_isi_str_tuple | (show rIsi _ _ _ _; refine rd_isi_list_int (by array_mem_dec) ?_) | (show rIsi _ _ _ _; refine rd_isi_list_bool (by array_mem_dec) ?_) | (show rIsi _ _ _ _; refine rd_isi_list_str (by array_mem_dec) ?_) | (show rIsi _ _ _ _; refine rd_isi_list_list (by array_mem_dec) ?_) | (show rIsi _ _ _ _; refine rd_isi_list_tuple (by array_mem_dec) ?_) | (show rIsi _ _ _ _; refine rd_isi_tuple_int (by array_mem_dec) ?_) | (show rIsi _ _ _ _; refine rd_isi_tuple_bool (by array_mem_dec) ?_) | (show rIsi _ _ _ _; refine rd_isi_tuple_str (by array_mem_dec) ?_) | (show rIsi _ _ _ _; refine rd_isi_tuple_list (by array_mem_dec) ?_) | (show rIsi _ _ _ _; refine rd_isi_tuple_tuple (by array_mem_dec) ?_) | apply rd_isi_NoneType_int | apply rd_isi_NoneType_bool | apply rd_isi_NoneType_str | apply rd_isi_NoneType_list | apply rd_isi_NoneType_tuple)
local macro_rules | `(tactic| lcg_src) => `(tactic| repeat keq_rows)

local macro_rules | `(tactic| lcg_sub) => `(tactic| with_reducible first | apply rd_chain)
local macro_rules | `(tactic| lcg_off) => `(tactic| repeat (first | keq_rows | lcg_sub))
section
variable {P : Program} {w : World} {K : PySem.W.Frag} {mg : Str → Option Value} {base : Heap} {a : Ad}
def sp_law_lines (K : PySem.W.Frag) : Sp := fun vs H Q _ => ∃ (F : Hp) (L pl kl rl : Addr) (ks rs : List V) (d : Draft), vs = [.ref L] ∧ Same F H ∧ F L = some (.lst [.str (tx d.name), .ref pl, .ref kl, hookV d.hook, .ref rl]) ∧ F pl = some (.lst (d.parts.map wd)) ∧ F kl = some (.lst ks) ∧ DpAll K F ks (d.keeping.map keepD) ∧
  H rl = some (.lst rs) ∧ DpAll K F rs (d.rows.map prowD) ∧ d.Wf ∧ ∀ F' H' l, Grow [] F H F' H' → H l = none → Hold F' H' l (.lst (d.lines.map wd)) → Q (.ref l) H'
theorem ok_law_lines (T : Txt K mg a) : FnOk P w K mg base CX0 1 a.f_law_lines a.fd_law_lines ["_law_lib"]  (sp_law_lines K) := by
  refine T.F_law_lines.ok sc_law_lines (fun vs H Q E h => ?_) (fun cdv A outer s H vs Q E hr h => ?_)
  · obtain ⟨_, _, _, _, _, _, _, _, rfl, _⟩ := h
    rfl
  · obtain ⟨F, L, pl, kl, rl, ks, rs, d, rfl, fh, hL, hpl, hkl, hks, hrl, hrs, wf, k⟩ := h
    refine ⟨_, ((pss_cons (ps_set (i := 1) sc_law_lines.nd rfl (Or.inl rfl) (pe_op op_cat (pe_lst (pa_cons (pe_op op_addStr pe_str (pe_ix ix_list (pv 0) pe_int (fun _ _ => rfl))) pa_nil)) (pe_lc (own := [("_law_part", 2)]) (g := gName 2) (tt := tYes) rfl sc_law_lines.nd (pi_list (pe_ix ix_list (pv 0) pe_int (fun _ _ => rfl))) (blkOk_by (own := [("_law_part", 2)]) (N := ["_law_lib", "_law_found", "_law_part", "_law_row", "_law_sign", "_law_changed", "_law_maker", "_law_arity"]) (sc := defScope s_law_lines) (by decide +kernel)) (fun _ _ _ _ _ => (pg_name (i := 2) sc_law_lines.nd rfl (Or.inl rfl))) (fun _ _ _ _ _ => pts_nil) (fun _ _ _ _ _ => (pe_op op_addStr pe_str (pv 2))))))
 (pss_cons (ps_set (i := 1) sc_law_lines.nd rfl (Or.inl rfl) (pe_op op_cat (pv 1) (pe_lc (own := [("_law_row", 3)]) (g := gName 3) (tt := tYes) rfl sc_law_lines.nd (pi_list (pe_ix ix_list (pv 0) pe_int (fun _ _ => rfl))) (blkOk_by (own := [("_law_row", 3)]) (N := ["_law_lib", "_law_found", "_law_part", "_law_row", "_law_sign", "_law_changed", "_law_maker", "_law_arity"]) (sc := defScope s_law_lines) (by decide +kernel)) (fun _ _ _ _ _ => (pg_name (i := 3) sc_law_lines.nd rfl (Or.inl rfl))) (fun _ _ _ _ _ => pts_nil) (fun _ _ _ _ _ => (pe_op op_addStr (pe_op op_addStr (pe_op op_addStr pe_str (pe_ix (ix_tupK (K := K)) (pv 3) pe_int (fun _ _ => rfl))) pe_str) (pe_ix (ix_tupK (K := K)) (pv 3) pe_int (fun _ _ => rfl)))))))
 (Evl.pss_cut (ps_if (pt_cmpR op_notNone (pe_ix ix_list (pv 0) pe_int (fun _ _ => rfl)) pe_non (nomark _))
 (pss_one (ps_expr (pe_bm PySem.F.plainAttrs_list PySem.F.slot_list_append PySem.F.type_list_append mt_append (pv 1) (pa_cons (pe_op op_addStr pe_str (pe_ix ix_list (pv 0) pe_int (fun _ _ => rfl))) pa_nil))))
 pss_nil)
 (pss_cons (ps_for PassesOwn.never rfl (pi_list (pe_ix ix_list (pv 0) pe_int (fun _ _ => rfl))) (pg_unl rfl (pgs_cons (pg_name (i := 4) sc_law_lines.nd rfl (Or.inl rfl)) (pgs_cons (pg_name (i := 5) sc_law_lines.nd rfl (Or.inl rfl)) (pgs_cons (pg_name (i := 6) sc_law_lines.nd rfl (Or.inl rfl)) (pgs_cons (pg_name (i := 7) sc_law_lines.nd rfl (Or.inl rfl)) pgs_nil)))))
 (pss_one (ps_if (pt_cmpR op_eq (pv 7) pe_int (nomark _))
 (pss_one (ps_expr (pe_bm PySem.F.plainAttrs_list PySem.F.slot_list_append PySem.F.type_list_append mt_append (pv 1) (pa_cons (pe_op op_addStr (pe_op op_addStr (pe_op op_addStr pe_str (pv 4)) pe_str) (pv 6)) pa_nil))))
 (pss_one (ps_if (pt_cmpR (op_eqD hr.units) (pv 5) (pe_lst pa_nil) (nomark _))
 (pss_one (ps_expr (pe_bm PySem.F.plainAttrs_list PySem.F.slot_list_append PySem.F.type_list_append mt_append (pv 1) (pa_cons (pe_op op_addStr (pe_op op_addStr (pv 4) pe_str) (pv 6)) pa_nil))))
 (pss_one (ps_expr (pe_bm PySem.F.plainAttrs_list PySem.F.slot_list_append PySem.F.type_list_append mt_append (pv 1) (pa_cons (pe_op op_addStr (pe_op op_addStr (pe_op op_addStr (pe_op op_addStr (pv 4) pe_str) (pe_joinR (K := K) pe_str (pv 5))) pe_str) (pv 6)) pa_nil)))))))))
 (pss_one (ps_ret (pv 1)))))))), ?_⟩
    try simp only [cxK, libraryS_tx, needsS_tx, keepsS_tx, ofS_tx, hookS_tx, makeS_tx, byS_tx, changesS_tx, space_tx]
    have hnl := wf.nm.2
    have hpn := wf.pl
    have hkn := wf.kl
    have hrn := wf.rl
    have hLH := fh _ _ hL
    have hksl : ks.length = d.keeping.length := by simpa using hks.length
    have hrsl : rs.length = d.rows.length := by simpa using hrs.length
    lcg_off
    refine newL fh fun F1 H1 l1 g1 n1 e1 => ?_
    have hL1 := g1.fh _ _ (g1.ff _ _ hL)
    have hpl1 := g1.fh _ _ (g1.ff _ _ hpl)
    lcg_off
    refine lcL (rows := d.parts) (by simp) (by rw [List.length_map]; omega) (sqL_of hpl1) (fun _ => true) (fun q => .str (tx (wNeeds ++ [32] ++ q))) (fun i x q H3 hx hq s3 Done Kept hdn hkp => ?_) fun l2 H2 hl2 s2 e2 => ?_
    · rw [List.getElem?_map, hq] at hx
      obtain rfl : V.str (tx q) = x := Option.some.inj hx
      have hql := (wf.pw q (List.mem_of_getElem? hq)).2
      lcg_off
      refine ⟨rfl, ?_⟩
      lcg_off
      refine iteT ?_
      lcg_off
      exact hkp _ (Same.refl _) rfl
    rw [flt] at e2
    have g2 := g1.trans (Grow.ofSame' g1.fh s2)
    refine new_cat g2.fh (s2 _ _ (g1.fh _ _ e1)) e2 (by simp; omega) fun F3 H3 l3 g3 n3 e3 => ?_
    have g13 := g2.trans g3
    have hL3 := g13.fh _ _ (g13.ff _ _ hL)
    have e3H := g3.fh _ _ e3
    have hkl3 := g13.fh _ _ (g13.ff _ _ hkl)
    have hks3 : DpAll K H3 ks (d.keeping.map keepD) := (hks.mono g13.ff).mono g13.fh
    lcg_off
    refine lcL (rows := d.keeping) hksl (by omega) (sqL_of hkl3) (fun _ => true) (fun q => .str (tx (wKeeps ++ [32] ++ q.1 ++ [32] ++ wOf ++ [32] ++ q.2))) (fun i x q H4 hx hq s4 Done Kept hdn hkp => ?_) fun l4 H4 n4 s4 e4 => ?_
    · obtain ⟨dd, z1, z2⟩ := hks3.get hx
      rw [List.getElem?_map, hq] at z1
      cases z1
      obtain ⟨t, rfl, ht⟩ := tup0 z2
      have ht4 := sqT_same s4 ht
      have hq1 := (wf.kw q (List.mem_of_getElem? hq)).1.2
      have hq2 := (wf.kw q (List.mem_of_getElem? hq)).2.2
      lcg_off
      refine ⟨rfl, ?_⟩
      lcg_off
      refine iteT ?_
      lcg_off
      have e : [107, 101, 101, 112, 115, 32] ++ q.1 ++ [32, 111, 102, 32] ++ q.2 = wKeeps ++ [32] ++ q.1 ++ [32] ++ wOf ++ [32] ++ q.2 := by
        unfold wKeeps wOf
        simp
      rw [e]
      exact hkp _ (Same.refl _) rfl
    rw [flt] at e4
    have g14 := g13.trans (Grow.ofSame' g13.fh s4)
    refine rd_cat (s4 _ _ e3H) e4 (by simp; omega) fun l5 n5 => ?_
    have nl5 : H l5 = none := g14.free n5
    have g5 := g14.newO (o := .lst ([.str (tx ([108, 105, 98, 114, 97, 114, 121, 32] ++ d.name))] ++ d.parts.map (fun q => .str (tx (wNeeds ++ [32] ++ q))) ++ d.keeping.map (fun q => V.str (tx (wKeeps ++ [32] ++ q.1 ++ [32] ++ wOf ++ [32] ++ q.2))))) n5
    have h5 := Hold.new (o := .lst ([.str (tx ([108, 105, 98, 114, 97, 114, 121, 32] ++ d.name))] ++ d.parts.map (fun q => .str (tx (wNeeds ++ [32] ++ q))) ++ d.keeping.map (fun q => V.str (tx (wKeeps ++ [32] ++ q.1 ++ [32] ++ wOf ++ [32] ++ q.2))))) g14.fh n5
    generalize hH5 : upd H4 l5 (.lst ([.str (tx ([108, 105, 98, 114, 97, 114, 121, 32] ++ d.name))] ++ d.parts.map (fun q => .str (tx (wNeeds ++ [32] ++ q))) ++ d.keeping.map (fun q => V.str (tx (wKeeps ++ [32] ++ q.1 ++ [32] ++ wOf ++ [32] ++ q.2))))) = H5 at g5 h5
    have hL5 := g5.fh _ _ (g5.ff _ _ hL)
    lcg_off
    refine rd_cut (fun σ' H' => σ' = [some (.ref L), some (.ref l5), none, none, none, none, none, none] ∧ Grow [] F H F3 H' ∧ Hold F3 H' l5 (.lst (d.heads.map wd))) ?_ ?_
    · have eh : d.heads.map wd = [.str (tx ([108, 105, 98, 114, 97, 114, 121, 32] ++ d.name))] ++ d.parts.map (fun q => .str (tx (wNeeds ++ [32] ++ q))) ++ d.keeping.map (fun q => V.str (tx (wKeeps ++ [32] ++ q.1 ++ [32] ++ wOf ++ [32] ++ q.2))) ++ (match d.hook with | none => [] | some h => [.str (tx (wHook ++ [32] ++ h))]) := by
        unfold Draft.heads
        rw [List.map_append, List.map_append, List.map_append, List.map_map, List.map_map]
        cases d.hook <;> rfl
      have h5h := h5.h
      lcg_off
      cases hhk : d.hook with
      | none =>
        refine ifN (fun c => absurd rfl c) (fun c => ?_)
        lcg_off
        rw [hhk] at eh
        rw [eh, List.append_nil]
        exact ⟨rfl, g5, h5⟩
      | some hk =>
        refine ifN (fun _ => ?_) (fun c => by cases c)
        have hkl := (wf.hk hk hhk).2
        rw [hhk] at hL5
        have hL5' : H5 L = some (.lst [.str (tx d.name), .ref pl, .ref kl, .str (tx hk), .ref rl]) := hL5
        clear hL5
        lcg_off
        refine rd_append h5.h (by simp; exact sz_lt (by omega)) ?_
        lcg_off
        rw [hhk] at eh
        rw [eh]
        exact ⟨rfl, g5.mut h5.f (.inr nl5), h5.put⟩
    · rintro σ' H6 ⟨rfl, g6, h6⟩
      have hhl := d.heads_len wf
      have hL6 := g6.fh _ _ (g6.ff _ _ hL)
      have hrl6 := g6.same _ _ hrl
      have nrl : l5 ≠ rl := fun z => by rw [z, hrl] at nl5; cases nl5
      lcg_off
      refine fk_list (xs := rs) (fun i σ H7 => ∃ F7, Grow [] F H F7 H7 ∧ Hold F7 H7 l5 (.lst ((d.heads ++ (d.rows.take i).map Row3.line).map wd)) ∧ ∃ v4 v5 v6 v7, σ = [some (.ref L), some (.ref l5), none, none, v4, v5, v6, v7]) ⟨F3, g6, by simpa using h6, none, none, none, none, rfl⟩ (fun i σ H7 _ ⟨F7, g7, _, _⟩ => sqL_of (g7.same _ _ hrl)) ?_ ?_
      · rintro i x σ H7 hx ⟨F7, g7, h7, v4, v5, v6, v7, rfl⟩
        obtain ⟨dd, z1, z2⟩ := hrs.get hx
        rw [List.getElem?_map] at z1
        cases hr : d.rows[i]? with
        | none => rw [hr] at z1; cases z1
        | some r =>
          rw [hr] at z1
          cases z1
          obtain ⟨t, c, rfl, ht, hc⟩ := prow_inv z2
          have wr := wf.rw r (List.mem_of_getElem? hr)
          have ht7 : SqL K H7 t _ := g7.fh.seq (g7.ff.seq ht)
          have hc7 : SqL K H7 c _ := g7.fh.seq (g7.ff.seq hc)
          have w1 := wr.s.2
          have w2 := wr.m.2
          have w3 := spaced_le wr.l wr.c
          have h7h := h7.h
          have hll : ((d.heads ++ (d.rows.take i).map Row3.line).map wd).length < 100 := by
            simp
            omega
          have fin : ∀ (F8 H8 : Hp) (q : Wd), Grow [] F7 H7 F8 H8 → Hold F8 H8 l5 (.lst ((d.heads ++ (d.rows.take i).map Row3.line).map wd)) → q = r.line → ∀ v4 v5 v6 v7, (fun (σ : L2.St) (H7 : Hp) => ∃ F7, Grow [] F H F7 H7 ∧ Hold F7 H7 l5 (.lst ((d.heads ++ (d.rows.take (i + 1)).map Row3.line).map wd)) ∧ ∃ v4 v5 v6 v7, σ = [some (.ref L), some (.ref l5), none, none, v4, v5, v6, v7])
              [some (.ref L), some (.ref l5), none, none, v4, v5, v6, v7] (upd H8 l5 (.lst ((d.heads ++ (d.rows.take i).map Row3.line).map wd ++ [.str (tx q)]))) := by
            intro F8 H8 q g8 h8 e v4 v5 v6 v7
            subst e
            refine ⟨F8, (g7.trans g8).mut h8.f (.inr nl5), ?_, v4, v5, v6, v7, rfl⟩
            have e2 : (d.heads ++ (d.rows.take (i + 1)).map Row3.line).map wd = (d.heads ++ (d.rows.take i).map Row3.line).map wd ++ [.str (tx r.line)] := by
              obtain ⟨i1, i2⟩ := List.getElem?_eq_some_iff.mp hr
              rw [List.take_succ_eq_append_getElem i1, i2]
              simp [wd]
            rw [e2]
            exact h8.put
          refine rd_gunlL ht7 (by with_unfolding_all rfl) ?_
          lcg_off
          refine ifD (fun c1 => ?_) (fun c1 => ?_)
          · have c1' : arityN r.sign = 0 := by have := V.int.inj c1; omega
            lcg_off
            refine rd_append h7.h (sz_lt (by omega)) ?_
            lcg_off
            refine fin F7 H7 _ (Grow.refl g7.fh) h7 ?_ _ _ _ _
            unfold Row3.line
            rw [if_pos c1']
            unfold wMake wBy
            simp
          · have c1' : arityN r.sign ≠ 0 := fun z => c1 (by rw [z]; rfl)
            lcg_off
            refine newL g7.fh fun F8 H8 t8 g8 n8 e8 => ?_
            have h8 := h7.go0 g8
            have h8h := h8.h
            have hc8 := g8.same.seq hc7
            refine rd_eqWL (vs := []) hc8 (sqL_of (g8.fh _ _ e8)) (fun w hw => (wr.c w hw).1) (fun w hw => by cases hw) ?_
            lcg_off
            refine ifD (fun c2 => ?_) (fun c2 => ?_)
            · lcg_off
              refine rd_append h8.h (sz_lt (by omega)) ?_
              lcg_off
              refine fin F8 H8 _ g8 h8 ?_ _ _ _ _
              unfold Row3.line
              rw [if_neg c1', if_pos c2]
              unfold wBy
              simp
            · lcg_off
              refine rd_joinW (.inl hc8) (by have := spaced_len wr.l wr.c; show (r.changed.map (·.length)).sum + r.changed.length * 1 ≤ 100000; omega) ?_
              rw [show TL.joinL [32] r.changed = spaced r.changed from rfl]
              lcg_off
              refine rd_append h8.h (sz_lt (by omega)) ?_
              lcg_off
              refine fin F8 H8 _ g8 h8 ?_ _ _ _ _
              unfold Row3.line
              rw [if_neg c1', if_neg c2]
              unfold wBy wChanges
              simp
      · rintro σ H7 ⟨F7, g7, h7, v4, v5, v6, v7, rfl⟩
        lcg_off
        rw [hrsl, List.take_length, ← Draft.lines_eq] at h7
        exact k F7 H7 l5 g7 nl5 h7
end
end Lb

namespace Lb
open PySem L2 Hk
theorem mk_nl : ∀ n ∈ [0, 1, 2], ∀ hk : Bool, ∀ m ∈ mkFor n hk, 10 ∉ m := by decide +kernel
theorem ar3 (s : Wd) : arityN s ∈ [0, 1, 2] := by
  have h := arityN_le s
  have h2 : arityN s = 0 ∨ arityN s = 1 ∨ arityN s = 2 := by omega
  simpa using h2
theorem Lib_nl {d : Draft} (h : d.Lib) : ∀ q ∈ d.rows, 10 ∉ q.maker := fun q hq => mk_nl _ (ar3 q.sign) _ _ (h.rm q hq)
theorem read_lib {d : Draft} (h : d.Lib) : readL (TL.joinL [10] d.lines) = .ok d := by
  rw [Draft.lines_eq]
  exact (read_rows h d.rows h.r0 (fun r hr => ⟨h.rs r hr, Lib_nl h r hr⟩) h.rn h.rl).1 h.rm
theorem nl_tx : Str.ofString "\n" = tx [10] := by decide +kernel
theorem mk2_ok : ∀ w ∈ mkFor 2 true, w.length ≤ 20 ∧ 10 ∉ w ∧ okT w := by unfold okT; decide +kernel
theorem mkFor_ok {n : Nat} {hk : Bool} : ∀ w ∈ mkFor n hk, okT w := fun w hw => (mkAll_ok (List.mem_filter.mp hw).1).1
theorem mkFor_len : ∀ n ∈ [0, 1, 2], ∀ hk : Bool, (mkFor n hk).length ≤ 20 := by decide +kernel
theorem ne_bl {x y : Bool} (h : x = y) : (!decide (V.bl x = V.bl y)) = false := by subst h; simp
theorem okT_app {x y : Wd} (h1 : okT x) (h2 : okT y) : okT (x ++ y) := fun c hc => (List.mem_append.mp hc).elim (h1 c) (h2 c)
theorem joinL_okT (c : Nat) (hc : c < 128) : ∀ {ws : List Wd}, (∀ w ∈ ws, okT w) → okT (TL.joinL [c] ws)
  | [], _ => okT_nil
  | [w], h => h w (by simp)
  | w :: v :: r, h => okT_app (h w (by simp)) (okT_app (fun x hx => by rw [List.mem_singleton.mp hx]; exact hc) (joinL_okT c hc fun x hx => h x (List.mem_cons_of_mem _ hx)))
theorem join_ok {ls : List Wd} (h : ∀ l ∈ ls, okT l) (hl : (ls.map (·.length)).sum + ls.length * 1 ≤ 9000) : okT (TL.joinL [10] ls) ∧ (TL.joinL [10] ls).length ≤ 9000 := by
  refine ⟨joinL_okT 10 (by decide) h, ?_⟩
  have h1 := joinL_len [10] ls
  have h2 : (TL.joinL [10] ls).length ≤ (ls.map (·.length)).sum + ls.length * ([10] : List Nat).length := h1
  simp only [List.length_singleton] at h2
  omega
theorem lit_okT : ∀ w ∈ [wLibrary, wNeeds, wKeeps, wOf, wHook, wMake, wBy, wChanges, [32]], okT w := by unfold okT; decide
theorem heads_okT {d : Draft} (h : d.Wf) : ∀ l ∈ d.heads, okT l := by
  intro l hl
  have l1 := lit_okT wLibrary (by simp)
  have l2 := lit_okT wNeeds (by simp)
  have l3 := lit_okT wKeeps (by simp)
  have l4 := lit_okT wOf (by simp)
  have l5 := lit_okT wHook (by simp)
  have l9 := lit_okT [32] (by simp)
  unfold Draft.heads at hl
  rcases List.mem_append.mp hl with hl | hl
  · rcases List.mem_append.mp hl with hl | hl
    · rcases List.mem_append.mp hl with hl | hl
      · rw [List.mem_singleton.mp hl]
        exact okT_app (okT_app l1 l9) h.nm.1
      · obtain ⟨q, hq, rfl⟩ := List.mem_map.mp hl
        exact okT_app (okT_app l2 l9) (h.pw q hq).1
    · obtain ⟨q, hq, rfl⟩ := List.mem_map.mp hl
      exact okT_app (okT_app (okT_app (okT_app (okT_app (okT_app l3 l9) (h.kw q hq).1.1) l9) l4) l9) (h.kw q hq).2.1
  · cases e : d.hook with
    | none => rw [e] at hl; cases hl
    | some x =>
      rw [e] at hl
      rw [List.mem_singleton.mp hl]
      exact okT_app (okT_app l5 l9) (h.hk x e).1
theorem row_okT {r : Row3} (h1 : okT r.sign) (h2 : ∀ w ∈ r.changed, okT w) (h3 : okT r.maker) : okT r.line := by
  have l6 := lit_okT wMake (by simp)
  have l7 := lit_okT wBy (by simp)
  have l8 := lit_okT wChanges (by simp)
  have l9 := lit_okT [32] (by simp)
  unfold Row3.line
  split
  · exact okT_app (okT_app (okT_app (okT_app (okT_app (okT_app l6 l9) h1) l9) l7) l9) h3
  · split
    · exact okT_app (okT_app (okT_app (okT_app h1 l9) l7) l9) h3
    · exact okT_app (okT_app (okT_app (okT_app (okT_app (okT_app (okT_app (okT_app h1 l9) l8) l9) (joinL_okT 32 (by decide) h2)) l9) l7) l9) h3
section
variable {K : PySem.W.Frag}
theorem ixN_nat {n i : Nat} (h : i < n) : ixN n (i : Int) = some i := by
  unfold ixN
  rw [if_pos (by omega), if_pos (by omega)]
  simp
/-- [row[0] for row in lib[4]] -/
theorem firsts_prow {F H : Hp} {pk : Addr} {ks : List V} {rows : List Row3} {Q : VK} {g : TG} {tt : TT} {te : TE} {vs : List Nat} {σ : L2.St} (fh : Same F H) (hk : SqL K H pk ks) (hd : DpAll K H ks (rows.map prowD)) (hl : rows.length ≤ 1000)
    (turn : ∀ (t c : Addr) (q : Row3) H1 (Done : Hp → Prop) (Kept : VK), SqL K H1 t [.str (tx q.sign), .ref c, .str (tx q.maker), .int (arityN q.sign : Nat)] → (∀ H3, Same H1 H3 → Kept (.str (tx q.sign)) H3) → g (.ref t) (wipe σ vs) H1 fun σ2 H2 => wipe σ2 vs = wipe σ vs ∧ tt σ2 H2 fun b H3 => if b = true then te σ2 H3 Kept else Done H3)
    (k : ∀ D H', H D = none → Grow [] F H F H' → H' D = some (.lst ((rows.map (·.sign)).map wd)) → Q (.ref D) H') : LcK (Itl K pk) g tt te vs σ H Q := by
  have hn : ks.length = rows.length := by simpa using hd.length
  refine lcL (rows := rows) hn (by omega) hk (fun _ => true) (fun q => .str (tx q.sign)) (fun i x q H1 hx hr s1 Done Kept hdn hkp => ?_) fun D H' hD s' e => ?_
  · obtain ⟨dd, e1, e2⟩ := hd.get hx
    rw [List.getElem?_map, hr] at e1
    cases e1
    obtain ⟨t, c, rfl, hs, _⟩ := prow_inv e2
    exact turn t c q H1 Done Kept (s1.seq hs) fun H3 s3 => hkp H3 s3 rfl
  · refine k D H' hD (Grow.ofSame' fh s') ?_
    rw [e, List.map_map]
    congr 3
    simp
theorem idx_sign {rs : List Row3} {k : Nat} {r : Row3} (h : rs[k]? = some r) (hn : (rs.map (·.sign)).Nodup) : (rs.map (·.sign)).idxOf r.sign = k := by
  have h1 : (rs.map (·.sign))[k]? = some r.sign := by rw [List.getElem?_map, h]; rfl
  have hm : r.sign ∈ rs.map (·.sign) := List.mem_of_getElem? h1
  have hlt := List.idxOf_lt_length_of_mem hm
  have h2 : (rs.map (·.sign))[(rs.map (·.sign)).idxOf r.sign]? = some r.sign := by rw [List.getElem?_eq_getElem hlt, List.getElem_idxOf hlt]
  exact (List.getElem?_inj hlt hn).mp (h2.trans h1.symm)
end
end Lb

/-! Law k02, plainly: wrong lines in the place of right ones. -/
namespace Lb
open PySem L2 Hk
/-! ### words of a line -/
theorem spl32_app (r : Wd) : ∀ (l acc : Wd), TL.spl [32] 0 acc (l ++ ([32] ++ r)) = TL.spl [32] 0 acc l ++ wordsL r
  | [], acc => by
    show TL.spl [32] 0 acc (32 :: r) = _
    rw [spl_step, if_pos rfl, TL.spl_nil]
    rfl
  | y :: l, acc => by
    rw [List.cons_append, spl_step, spl_step]
    split
    · rw [spl32_app r l []]
      rfl
    · exact spl32_app r l _
theorem wordsL_sp (l r : Wd) : wordsL (l ++ ([32] ++ r)) = wordsL l ++ wordsL r := spl32_app r l []
theorem wordsL_nil : wordsL [] = [[]] := TL.spl_nil _ _ _
theorem wordsL_end (l : Wd) : wordsL (l ++ [32]) = wordsL l ++ [[]] := by
  have := wordsL_sp l []
  rwa [List.append_nil, wordsL_nil] at this
theorem wordsL_beg (l : Wd) : wordsL ([32] ++ l) = [] :: wordsL l := wordsL_sp [] l
theorem wordsL_x (l : Wd) : wordsL (l ++ [32, 120]) = wordsL l ++ [[120]] := wordsL_sp l [120]
theorem spl32_free : ∀ (l acc : Wd), 32 ∉ acc → ∀ w ∈ TL.spl [32] 0 acc l, 32 ∉ w
  | [], acc, h => by
    rw [TL.spl_nil]
    intro w hw
    rw [List.mem_singleton.mp hw]
    exact h
  | y :: l, acc, h => by
    rw [spl_step]
    split
    · intro w hw
      rcases List.mem_cons.mp hw with rfl | hw
      · exact h
      · exact spl32_free l [] (by simp) w hw
    · rename_i hy
      refine spl32_free l _ (fun z => ?_)
      rcases List.mem_append.mp z with z | z
      · exact h z
      · exact hy (List.mem_singleton.mp z).symm
theorem wordsL_free (l : Wd) : ∀ w ∈ wordsL l, 32 ∉ w := spl32_free l [] (by simp)
theorem wordsL_ne (l : Wd) : wordsL l ≠ [] := fun z => by
  have := wordsL_len l
  rw [z] at this
  simp at this
theorem wordsL_spaced {ws : List Wd} (h : ws ≠ []) (hw : ∀ w ∈ ws, 32 ∉ w) : wordsL (spaced ws) = ws := TL.spl_join h hw
def dbl (l : Wd) : Wd := TL.joinL [32, 32] (wordsL l)
def dblW : List Wd → List Wd
  | [] => [[]]
  | w :: r => w :: r.flatMap fun x => [[], x]
theorem wordsL_joinD : ∀ {ws : List Wd}, (∀ w ∈ ws, 32 ∉ w) → wordsL (TL.joinL [32, 32] ws) = dblW ws
  | [], _ => wordsL_nil
  | [w], h => wordsL_one (h w (by simp))
  | w :: v :: r, h => by
    have ih := wordsL_joinD (ws := v :: r) fun x hx => h x (List.mem_cons_of_mem _ hx)
    show wordsL (w ++ ([32, 32] ++ TL.joinL [32, 32] (v :: r))) = _
    rw [show w ++ ([32, 32] ++ TL.joinL [32, 32] (v :: r)) = w ++ ([32] ++ ([32] ++ TL.joinL [32, 32] (v :: r))) by simp, wordsL_cons (h w (by simp)), wordsL_beg, ih]
    rfl
theorem wordsL_dbl (l : Wd) : wordsL (dbl l) = dblW (wordsL l) := wordsL_joinD (wordsL_free l)
def up (l : Wd) : Wd := l.map PyProof.Rows.up1
theorem up_low {l : Wd} (h : okT l) : ∀ c ∈ up l, c ∉ lets ∧ c ≠ 10 ∨ 10 ∈ l := by
  intro c hc
  obtain ⟨x, hx, rfl⟩ := List.mem_map.mp hc
  by_cases h10 : x = 10
  · subst h10; exact .inr hx
  · exact .inl ((by decide : ∀ x : Fin 128, x.val ≠ 10 → PyProof.Rows.up1 x.val ∉ lets ∧ PyProof.Rows.up1 x.val ≠ 10) ⟨x, h x hx⟩ h10)
theorem up_ok {l : Wd} (h : okT l) : okT (up l) := by
  intro c hc
  obtain ⟨x, hx, rfl⟩ := List.mem_map.mp hc
  exact (by decide : ∀ x : Fin 128, PyProof.Rows.up1 x.val < 128) ⟨x, h x hx⟩
/-! ### what is refused -/
def heads4 : List Wd := [wNeeds, wKeeps, wHook, wMake] ++ binS ++ unS
theorem refuse_head {d : Draft} {ws : List Wd} (hn : d.name ≠ []) (h : ws.getD 0 [] ∉ heads4) : d.takes ws = none := by
  have k : ∀ x ∈ heads4, ws.getD 0 [] ≠ x := fun x hx z => h (z ▸ hx)
  unfold Draft.takes
  rw [if_neg hn, if_neg (k wNeeds (by simp [heads4]))]
  split
  · rfl
  · rw [if_neg (k wKeeps (by simp [heads4])), if_neg (k wHook (by simp [heads4])), if_neg (k wMake (by simp [heads4]))]
    unfold Draft.takesOperation
    rw [if_pos (.inl ⟨fun z => h (List.mem_append_left _ (List.mem_append_right _ z)), fun z => h (List.mem_append_right _ z)⟩)]
theorem refuse_up {d : Draft} {ws : List Wd} (h : ∀ w ∈ ws, ∀ c ∈ w, c ∉ lets) : d.takes ws = none := by
  have h0 : ∀ c ∈ ws.getD 0 [], c ∉ lets := by
    rw [List.getD_eq_getElem?_getD]
    cases e : ws[0]? with
    | none => intro c hc; cases hc
    | some w => exact h w (List.mem_of_getElem? e)
  have k : ∀ x ∈ [wLibrary, wNeeds, wKeeps, wHook, wMake], ws.getD 0 [] ≠ x := by
    intro x hx z
    rw [z] at h0
    exact (by decide : ∀ x ∈ [wLibrary, wNeeds, wKeeps, wHook, wMake], ¬ ∀ c ∈ x, c ∉ lets) x hx h0
  have hb : wBy ∉ ws := fun z => (by decide : ¬ ∀ c ∈ wBy, c ∉ lets) (h wBy z)
  unfold Draft.takes
  split
  · unfold Draft.takesName
    rw [if_pos (.inr (.inl (k _ (by simp))))]
  · rw [if_neg (k wNeeds (by simp))]
    split
    · rfl
    · rw [if_neg (k wKeeps (by simp)), if_neg (k wHook (by simp)), if_neg (k wMake (by simp))]
      unfold Draft.takesOperation
      rw [if_pos (.inr hb)]
theorem refuse_name {d : Draft} {ws : List Wd} (hn : d.name = []) (h : ws.length ≠ 2 ∨ ws.getD 0 [] ≠ wLibrary ∨ isClassB (ws.getD 1 []) = false) : d.takes ws = none := by
  unfold Draft.takes
  rw [if_pos hn]
  unfold Draft.takesName
  rw [if_pos h]
theorem refuse_needs {d : Draft} {ws : List Wd} (hn : d.name ≠ []) (h0 : ws.getD 0 [] = wNeeds) (h : ws.length ≠ 2 ∨ d.isNew (ws.getD 1 []) = false) : d.takes ws = none := by
  unfold Draft.takes
  rw [if_neg hn, if_pos h0]
  unfold Draft.takesNeeds
  split
  · rfl
  · rw [if_pos (h.elim .inl fun z => .inr (.inl z))]
theorem refuse_keeps {d : Draft} {ws : List Wd} (hn : d.name ≠ []) (hp : d.parts ≠ []) (h0 : ws.getD 0 [] = wKeeps) (h : ws.length ≠ 4 ∨ d.isNew (ws.getD 1 []) = false ∨ (ws.getD 3 [] ∉ d.parts ∧ ws.getD 3 [] ∉ d.keeping.map (·.1))) : d.takes ws = none := by
  unfold Draft.takes
  rw [if_neg hn, h0, if_neg (by decide), if_neg hp, if_pos rfl]
  unfold Draft.takesKeeps
  split
  · rfl
  · rcases h with h | h | h
    · rw [if_pos (.inl h)]
    · rw [if_pos (.inr (.inr h))]
    · split
      · rfl
      · first | rfl | rw [if_pos h]
theorem refuse_hook {d : Draft} {ws : List Wd} (hn : d.name ≠ []) (hp : d.parts ≠ []) (h0 : ws.getD 0 [] = wHook) (h : ws.length ≠ 2 ∨ (ws.getD 1 [] ∉ hooks ∧ ws.getD 1 [] ≠ wBare)) : d.takes ws = none := by
  unfold Draft.takes
  rw [if_neg hn, h0, if_neg (by decide), if_neg hp, if_neg (by decide), if_pos rfl]
  unfold Draft.takesHook
  rcases h with h | h
  · rw [if_pos (.inr (.inr h))]
  · split
    · rfl
    · first | rfl | rw [if_pos h]
theorem refuse_make {d : Draft} {ws : List Wd} (hn : d.name ≠ []) (hp : d.parts ≠ []) (h0 : ws.getD 0 [] = wMake) (h : ws.length < 4 ∨ ws.getD 2 [] ≠ wBy ∨ isWordB (ws.getD 1 []) = false ∨ ws.getD 1 [] ∈ unS) : d.takes ws = none := by
  unfold Draft.takes
  rw [if_neg hn, h0, if_neg (by decide), if_neg hp, if_neg (by decide), if_neg (by decide), if_pos rfl]
  unfold Draft.takesRequest
  rw [if_pos h]
theorem takes_sign {d : Draft} {ws : List Wd} {s : Wd} (hn : d.name ≠ []) (hp : d.parts ≠ []) (hs : s ∈ binS ∨ s ∈ unS) (h0 : ws.getD 0 [] = s) : d.takes ws = d.takesOperation ws := by
  obtain ⟨q1, q2, q3, q4, q5, q6, q7, q8⟩ := sign_sp s (List.mem_append.mpr hs)
  unfold Draft.takes
  rw [if_neg hn, h0, if_neg q3, if_neg hp, if_neg q4, if_neg q5, if_neg q6]
theorem refuse_by {d : Draft} {ws : List Wd} {s : Wd} (hn : d.name ≠ []) (hp : d.parts ≠ []) (hs : s ∈ binS ∨ s ∈ unS) (h0 : ws.getD 0 [] = s) (h : wBy ∉ ws) : d.takes ws = none := by
  rw [takes_sign hn hp hs h0]
  unfold Draft.takesOperation
  rw [if_pos (.inr h)]
theorem refuse_second {d : Draft} {s x : Wd} {r : List Wd} (hn : d.name ≠ []) (hp : d.parts ≠ []) (hs : s ∈ binS ∨ s ∈ unS) (h1 : x ≠ wBy) (h2 : x ≠ wChanges) : d.takes (s :: x :: r) = none := by
  obtain ⟨q1, q2, q3, q4, q5, q6, q7, q8⟩ := sign_sp s (List.mem_append.mpr hs)
  rw [takes_sign hn hp hs rfl]
  unfold Draft.takesOperation
  by_cases hb : wBy ∈ s :: x :: r
  · rw [if_neg (by
      rintro (⟨y1, y2⟩ | y)
      · exact hs.elim y1 y2
      · exact y hb), if_neg (by
      rw [List.idxOf_cons, List.idxOf_cons]
      have e1 : (s == wBy) = false := by simpa using q7
      have e2 : (x == wBy) = false := by simpa using h1
      rw [e1, e2]
      simp), if_pos (.inl h2)]
  · rw [if_pos (.inr hb)]
theorem takes_op {d : Draft} {s : Wd} {ch ms : List Wd} (hn : d.name ≠ []) (hp : d.parts ≠ []) (hs : s ∈ binS ∨ s ∈ unS) (hby : wBy ∉ ch) :
    d.takes (s :: wChanges :: (ch ++ wBy :: ms)) = if ch = [] ∨ ch ≠ d.parts.filter (fun p => decide (p ∈ ch)) then none else d.takesRow s ch (spaced ms) := by
  obtain ⟨q1, q2, q3, q4, q5, q6, q7, q8⟩ := sign_sp s (List.mem_append.mpr hs)
  rw [takes_sign hn hp hs rfl]
  have hi : (s :: wChanges :: (ch ++ wBy :: ms)).idxOf wBy = ch.length + 2 := by
    rw [List.idxOf_cons, List.idxOf_cons, List.idxOf_append]
    have e1 : (s == wBy) = false := by simpa using q7
    have e2 : (wChanges == wBy) = false := by decide
    rw [e1, e2, if_neg hby, List.idxOf_cons]
    simp
  unfold Draft.takesOperation
  rw [if_neg (by
    rintro (⟨y1, y2⟩ | y)
    · exact hs.elim y1 y2
    · exact y (by simp)), hi, if_neg (by omega)]
  have ht2 : ((s :: wChanges :: (ch ++ wBy :: ms)).take (ch.length + 2)).drop 2 = ch := by
    show ((ch ++ wBy :: ms).take ch.length) = ch
    rw [List.take_left]
  have hd2 : (s :: wChanges :: (ch ++ wBy :: ms)).drop (ch.length + 2 + 1) = ms := by
    show (ch ++ wBy :: ms).drop (ch.length + 1) = ms
    rw [List.drop_append]
    simp
  rw [ht2, hd2]
  by_cases c : ch = [] ∨ ch ≠ d.parts.filter (fun p => decide (p ∈ ch))
  · rw [if_pos c, if_pos (.inr c)]
  · rw [if_neg c, if_neg (by
      rintro (y | y)
      · exact y rfl
      · exact c y)]
    rfl
theorem refuse_row {d : Draft} {s m : Wd} {ch : List Wd} (h : m ∉ mkFor (arityN s) d.hook.isSome) : d.takesRow s ch m = none := by
  unfold Draft.takesRow
  split
  · rfl
  · first | rfl | rw [if_pos h]
theorem mkFor_mk2 {n : Nat} {hk : Bool} {m : Wd} (h : m ∈ mkFor n hk) : m ∈ mk2 := by
  have h := (List.mem_filter.mp h).1
  unfold mkAll at h
  split at h
  · exact (by decide +kernel : ∀ m ∈ mk0, m ∈ mk2) m h
  · split at h
    · exact (by decide +kernel : ∀ m ∈ mk1, m ∈ mk2) m h
    · exact h
theorem mk2_off : ∀ m ∈ mk2, m ++ [32] ∉ mk2 ∧ m ++ [32, 120] ∉ mk2 ∧ wBy ++ [32] ++ m ∉ mk2 ∧ spaced (wordsL m).dropLast ∉ mk2 := by decide +kernel
/-- a row's words, one's own words behind by -/
theorem refuse_rowW {d : Draft} {s : Wd} {ch : List Wd} (ms : List Wd) (hn : d.name ≠ []) (h0 : d.parts ≠ []) (hp : ∀ p ∈ d.parts, isFieldB p = true) (h : SignOk d.parts s ch) (hm : spaced ms ∉ mkFor (arityN s) d.hook.isSome) : d.takes (rowWs s ch ++ ms) = none := by
  unfold rowWs
  rcases h with ⟨hs, hc⟩ | ⟨h1, h2, h3, hc⟩
  · obtain ⟨q1, q2, q3, q4, q5, q6, q7, q8⟩ := sign_sp s (List.mem_append.mpr hs)
    rw [if_neg q8]
    by_cases he : ch = []
    · subst he
      rw [if_pos rfl, takes_sign hn h0 hs rfl]
      unfold Draft.takesOperation
      have hi : ([s, wBy] ++ ms).idxOf wBy = 1 := by
        show (s :: wBy :: ms).idxOf wBy = 1
        rw [List.idxOf_cons, List.idxOf_cons]
        have : (s == wBy) = false := by simpa using q7
        rw [this]
        simp
      rw [if_neg (by
        rintro (⟨y1, y2⟩ | y)
        · exact hs.elim y1 y2
        · exact y (by simp)), if_pos hi]
      exact refuse_row hm
    · rw [if_neg he]
      have hby : wBy ∉ ch := by
        intro z
        rw [hc] at z
        have := hp _ (List.mem_filter.mp z).1
        exact absurd this (by decide)
      have ew : s :: wChanges :: (ch ++ [wBy]) ++ ms = s :: wChanges :: (ch ++ wBy :: ms) := by simp
      rw [ew, takes_op hn h0 hs hby]
      split
      · rfl
      · exact refuse_row hm
  · rw [if_pos (req_ar h2 h3)]
    subst hc
    unfold Draft.takes
    rw [if_neg hn, show ([wMake, s, wBy] ++ ms).getD 0 [] = wMake from rfl, if_neg (show ¬ wMake = wNeeds by decide), if_neg h0, if_neg (show ¬ wMake = wKeeps by decide), if_neg (show ¬ wMake = wHook by decide), if_pos rfl]
    unfold Draft.takesRequest
    split
    · rfl
    · exact refuse_row hm
end Lb

/-! Law k02, plainly: the wrong lines that the law draws. -/
namespace Lb
open PySem L2 Hk
def q8 : Wd := [113, 113, 113, 113, 113, 113, 113, 113]
def wNamedB : Wd := [32, 98, 121, 32, 110, 97, 109, 101, 100]
def lineN (p : Wd) : Wd := wNeeds ++ [32] ++ p
def lineK (x y : Wd) : Wd := wKeeps ++ [32] ++ x ++ [32] ++ wOf ++ [32] ++ y
def lineH (h : Wd) : Wd := wHook ++ [32] ++ h
def commonW (l : Wd) : List Wd := [[], l ++ [32], [32] ++ l, dbl l, l ++ [32, 120], spaced (wordsL l).dropLast, up l]
/-- "", a, AB, A1, Abcdefghi, Ab_c, 1, aA -/
def name0 : List Wd := [[], [97], [65, 66], [65, 49], [65, 98, 99, 100, 101, 102, 103, 104, 105], [65, 98, 95, 99], [49], [97, 65]]
/-- by, changes, name, of, to, world, "", X, aB, a1, a_b, abcdefghi -/
def badF : List Wd := barred ++ [[], [88], [97, 66], [97, 49], [97, 95, 98], [97, 98, 99, 100, 101, 102, 103, 104, 105]]
def knownL (ls : List Wd) : List Wd := (ls.filter fun l => decide ((wordsL l).getD 0 [] ∈ [wNeeds, wKeeps])).map fun l => (wordsL l).getD 1 []
def wrongF (d : Draft) (ls : List Wd) : List Wd := badF ++ [d.name] ++ knownL ls
/-- own, hook, Call, "", bare own, new -/
def hookBad : List Wd := [[111, 119, 110], wHook, [67, 97, 108, 108], [], own wBare, [110, 101, 119]]
/-- call, own, copy common, renew common, bare other, named own, hook own, Named, call both -/
def oddMk : List Wd := [wCall, [111, 119, 110], common wCopy, common wRenew, other wBare, own wNamed, own wHook, [78, 97, 109, 101, 100], wCall ++ [32, 98, 111, 116, 104]]
/-- **, /, ~, minus, ++, make, make neg, make Zero, make abcdefghi, make a b, make a1, make a_b, make zeroX, make 1 -/
def oddOps : List Wd := [[42, 42], [47], [126], [109, 105, 110, 117, 115], [43, 43], wMake, wMake ++ [32, 110, 101, 103], wMake ++ [32, 90, 101, 114, 111], wMake ++ [32, 97, 98, 99, 100, 101, 102, 103, 104, 105], wMake ++ [32, 97, 32, 98],
  wMake ++ [32, 97, 49], wMake ++ [32, 97, 95, 98], wMake ++ [32, 122, 101, 114, 111, 88], wMake ++ [32, 49]]
def beginL (s : Wd) (ch : List Wd) : Wd := if arityN s = 0 then wMake ++ [32] ++ s else if ch = [] then s else s ++ [32] ++ wChanges ++ [32] ++ spaced ch
theorem line_begin (s : Wd) (ch : List Wd) (m : Wd) : Row3.line ⟨s, ch, m⟩ = beginL s ch ++ [32] ++ wBy ++ [32] ++ m := by
  unfold Row3.line beginL
  simp only
  split
  · rfl
  · split <;> rfl
def chs (d : Draft) : List (List Wd) := [[d.parts.headD [], d.parts.headD []], d.parts.reverse ++ d.parts, [], [d.parts.headD [] ++ q8], (d.keeping.map (·.1)).take 1, [d.parts.headD [], wBy]]
def lineC (s : Wd) (ch : List Wd) : Wd := s ++ [32] ++ wChanges ++ [32] ++ ch.flatMap (· ++ [32]) ++ [98, 121, 32, 110, 97, 109, 101, 100]
def wrongOps (d : Draft) (r : Row3) : List Wd :=
  ((mkFor 2 true ++ oddMk).filter fun m => !decide (m ∈ mkFor (arityN r.sign) d.hook.isSome)).map (fun m => beginL r.sign r.changed ++ [32] ++ wBy ++ [32] ++ m) ++
    [beginL r.sign r.changed, beginL r.sign r.changed ++ [32] ++ wBy ++ [32] ++ wBy ++ [32] ++ r.maker] ++ oddOps.map (· ++ wNamedB) ++
    (if arityN r.sign = 0 then [] else (chs d).map (lineC r.sign) ++ if 1 < d.parts.length then [r.sign ++ [32] ++ wChanges ++ [32] ++ spaced d.parts.reverse ++ wNamedB] else [])
/-- the wrong lines in the place k -/
inductive Wrongs (d : Draft) : Nat → List Wd → Prop
  | name : Wrongs d 0 (commonW (wLibrary ++ [32] ++ d.name) ++ name0.map (wLibrary ++ [32] ++ ·))
  | needs (i : Nat) (p : Wd) : d.parts[i]? = some p → Wrongs d (1 + i) (commonW (lineN p) ++ (wrongF d (d.lines.take (1 + i))).map lineN)
  | keeps (i : Nat) (q : Wd × Wd) : d.keeping[i]? = some q → Wrongs d (1 + d.parts.length + i) (commonW (lineK q.1 q.2) ++ (wrongF d (d.lines.take (1 + d.parts.length + i))).map (fun x => lineK x q.2) ++ [q.1, [], d.name, q.2 ++ q8].map (lineK q.1))
  | hook (h : Wd) : d.hook = some h → Wrongs d (1 + d.parts.length + d.keeping.length) (commonW (lineH h) ++ hookBad.map lineH)
  | row (i : Nat) (r : Row3) : d.rows[i]? = some r → Wrongs d (d.heads.length + i) (commonW r.line ++ wrongOps d r)
/-! ### the drafts ahead of a line -/
def Pre (d : Draft) (k : Nat) (e : Draft) : Prop := feed .empty ((d.lines.take k).map wordsL) 0 = .ok e
theorem class_ne {w : Wd} (h : isClassB w = true) : w ≠ [] := by
  intro z
  rw [z] at h
  exact absurd h (by decide)
theorem take_la {α : Type} (xs ys : List α) (i : Nat) : (xs ++ ys).take (xs.length + i) = xs ++ ys.take i := by
  rw [List.take_append, List.take_of_length_le (by omega), Nat.add_sub_cancel_left]
def rowA : Row3 := ⟨[43], [], wNamed⟩
theorem lib_cut {d : Draft} (h : d.Lib) {i j : Nat} (h0 : 0 < i) (hj : j = 0 ∨ i = d.parts.length) : Draft.Lib ⟨d.name, d.parts.take i, d.keeping.take j, none, [rowA]⟩ := by
  refine ⟨h.nm, ?_, ?_, ?_, ?_, ?_, ?_, ?_, ?_, ?_, ?_, ?_, ?_⟩
  · intro z
    have h1 : min i d.parts.length = 0 := by rw [← List.length_take]; exact congrArg List.length z
    have := List.length_pos_iff.mpr h.p0
    omega
  · have := h.pl
    show (d.parts.take i).length ≤ 3
    rw [List.length_take]; omega
  · exact fun p hp => h.pf p (List.mem_of_mem_take hp)
  · exact h.pn.sublist (List.take_sublist ..)
  · have := h.kl
    show (d.keeping.take j).length ≤ 2
    rw [List.length_take]; omega
  · intro n q hq
    have hq : (d.keeping.take j)[n]? = some q := hq
    rcases hj with rfl | rfl
    · rw [List.take_zero] at hq; cases hq
    · have hn : n < j := by
        have := (List.getElem?_eq_some_iff.mp hq).1
        rw [List.length_take] at this
        omega
      rw [List.getElem?_take_of_lt hn] at hq
      have := h.kf n q hq
      show isFieldB q.1 = true ∧ q.1 ∉ d.parts.take d.parts.length ∧ q.1 ∉ ((d.keeping.take j).take n).map (·.1) ∧ (q.2 ∈ d.parts.take d.parts.length ∨ q.2 ∈ ((d.keeping.take j).take n).map (·.1))
      rw [List.take_length, List.take_take, Nat.min_eq_left (by omega)]
      exact this
  · intro x hx; cases hx
  · simp
  · show ([rowA] : List Row3).length ≤ 6
    decide
  · show (([rowA] : List Row3).map (·.sign)).Nodup
    simp
  · intro r hr
    rw [List.mem_singleton.mp hr]
    exact .inl ⟨.inl (by decide), by simp [rowA]⟩
  · intro r hr
    rw [List.mem_singleton.mp hr]
    show wNamed ∈ mkFor (arityN [43]) false
    decide +kernel
theorem heads_keep (d : Draft) : d.heads = ([wLibrary ++ [32] ++ d.name] ++ d.parts.map lineN) ++ (d.keeping.map (fun p => lineK p.1 p.2) ++ (match d.hook with | none => [] | some h => [lineH h])) := by
  unfold Draft.heads
  rw [List.append_assoc]
  rfl
theorem take3 {α : Type} {A B C D : List α} {n i : Nat} (hn : n = A.length + i) (hi : i ≤ B.length) : (A ++ (B ++ C) ++ D).take n = A ++ B.take i := by
  subst hn
  rw [List.append_assoc, take_la, List.append_assoc, List.take_append_of_le_length hi]
theorem heads_need (d : Draft) : d.heads = [wLibrary ++ [32] ++ d.name] ++ (d.parts.map lineN ++ (d.keeping.map (fun p => lineK p.1 p.2) ++ (match d.hook with | none => [] | some h => [lineH h]))) := by
  rw [heads_keep, List.append_assoc]
theorem lines_needs {d : Draft} {i : Nat} (hi : i ≤ d.parts.length) : d.lines.take (1 + i) = [wLibrary ++ [32] ++ d.name] ++ (d.parts.take i).map lineN ++ ([] : List (Wd × Wd)).map (fun p => lineK p.1 p.2) := by
  rw [Draft.lines_eq, heads_need d, take3 (n := 1 + i) (A := [wLibrary ++ [32] ++ d.name]) (i := i) rfl (by rw [List.length_map]; exact hi), List.map_take, List.map_nil, List.append_nil]
theorem lines_keeps {d : Draft} {i : Nat} (hi : i ≤ d.keeping.length) : d.lines.take (1 + d.parts.length + i) = [wLibrary ++ [32] ++ d.name] ++ d.parts.map lineN ++ (d.keeping.take i).map (fun p => lineK p.1 p.2) := by
  rw [Draft.lines_eq, heads_keep d, take3 (i := i) (by simp; omega) (by rw [List.length_map]; exact hi), List.map_take]
theorem pre_needs {d : Draft} (h : d.Lib) {i : Nat} (hi : i ≤ d.parts.length) (h0 : 0 < i) : Pre d (1 + i) ⟨d.name, d.parts.take i, [], none, []⟩ := by
  have H := feed_heads (lib_cut h (i := i) (j := 0) h0 (.inl rfl))
  have e : Draft.heads ⟨d.name, d.parts.take i, d.keeping.take 0, none, [rowA]⟩ = d.lines.take (1 + i) := by
    rw [lines_needs hi, heads_keep]
    simp
  rw [e] at H
  exact H
theorem pre_one {d : Draft} (h : d.Lib) : Pre d 1 ⟨d.name, [], [], none, []⟩ := by
  have hsp := class_sp h.nm
  unfold Pre
  rw [Draft.lines_eq, heads_keep d]
  show feed .empty [wordsL (wLibrary ++ [32] ++ d.name)] 0 = _
  have ew : wordsL (wLibrary ++ [32] ++ d.name) = [wLibrary, d.name] := by
    rw [List.append_assoc, wordsL_cons (by decide), wordsL_one hsp.1]
  rw [ew]
  unfold feed
  have ht : Draft.empty.takes [wLibrary, d.name] = some { Draft.empty with name := d.name } := by
    unfold Draft.takes
    rw [if_pos (show Draft.empty.name = [] from rfl)]
    refine if_neg ?_
    rintro (z | z | z)
    · exact z rfl
    · exact z rfl
    · have : isClassB d.name = false := z
      rw [h.nm] at this
      cases this
  rw [ht]
  rfl
theorem pre_keeps {d : Draft} (h : d.Lib) {i : Nat} (hi : i ≤ d.keeping.length) : Pre d (1 + d.parts.length + i) ⟨d.name, d.parts, d.keeping.take i, none, []⟩ := by
  have H := feed_heads (lib_cut h (i := d.parts.length) (j := i) (List.length_pos_iff.mpr h.p0) (.inr rfl))
  have e : Draft.heads ⟨d.name, d.parts.take d.parts.length, d.keeping.take i, none, [rowA]⟩ = d.lines.take (1 + d.parts.length + i) := by
    rw [lines_keeps hi, heads_keep]
    simp
  rw [e] at H
  unfold Pre
  rw [H, List.take_length]
  rfl
theorem pre_rows {d : Draft} (h : d.Lib) {i : Nat} (hi : i ≤ d.rows.length) : Pre d (d.heads.length + i) { d with rows := d.rows.take i } := by
  unfold Pre
  rw [Draft.lines_eq, take_la, List.map_append, feed_app, feed_heads h]
  simp only
  have := (feed_rows (d.rows.take i) d.bald (0 + (d.heads.map wordsL).length) (class_ne h.nm) h.p0 h.pf (fun r hr => h.rs r (List.mem_of_mem_take hr)) (by
    show (([] ++ d.rows.take i : List Row3).map (·.sign)).Nodup
    rw [List.nil_append, List.map_take]
    exact h.rn.sublist (List.take_sublist ..)) (by
    have := h.rl
    show ([] ++ d.rows.take i : List Row3).length ≤ 6
    rw [List.nil_append, List.length_take]; omega)).1 (fun r hr => h.rm r (List.mem_of_mem_take hr))
  rw [← List.map_take, this]
  rfl
theorem pre_all {d : Draft} (h : d.Lib) : Pre d d.lines.length d := by
  have := pre_rows h (Nat.le_refl _)
  rw [List.take_length] at this
  rw [show d.lines.length = d.heads.length + d.rows.length by rw [Draft.lines_eq]; simp]
  exact this
/-- refused in the place k -/
def Bad (d : Draft) (k : Nat) (w : Wd) : Prop := ∃ e, Pre d k e ∧ e.takes (wordsL w) = none
/-- the first wrong line is told -/
theorem read_bad {d : Draft} (h : d.Lib) {k : Nat} {L : List Wd} {w : Wd} (hL : ∀ l ∈ L, 10 ∉ l) (ht : L.take k = d.lines.take k) (hk : L[k]? = some w) (hb : Bad d k w) (hkl : k ≤ d.lines.length) : readL (TL.joinL [10] L) = .error k := by
  obtain ⟨e, hp, hn⟩ := hb
  have hne : L ≠ [] := fun z => by rw [z] at hk; cases hk
  have hsp : splitL 10 (TL.joinL [10] L) = L := TL.spl_join hne hL
  obtain ⟨i1, i2⟩ := List.getElem?_eq_some_iff.mp hk
  have eL : L = d.lines.take k ++ w :: L.drop (k + 1) := by
    conv => lhs; rw [← List.take_append_drop k L]
    rw [List.drop_eq_getElem_cons i1, i2, ht]
  have e2 : feed .empty ((splitL 10 (TL.joinL [10] L)).map (splitL 32)) 0 = .error k := by
    rw [hsp]
    show feed .empty (L.map wordsL) 0 = _
    rw [eL, List.map_append, feed_app, hp]
    simp only [List.map_cons]
    rw [feed_cons, hn]
    simp only [List.length_map, List.length_take]
    rw [Nat.min_eq_left hkl, Nat.zero_add]
  unfold readL
  rw [e2]
theorem bad_end {d : Draft} (h : d.Lib) : Bad d d.lines.length [] := by
  refine ⟨d, pre_all h, refuse_head (class_ne h.nm) ?_⟩
  rw [wordsL_nil]
  decide
theorem bad_first {d : Draft} : Bad d 0 [] := by
  refine ⟨.empty, by unfold Pre; rw [List.take_zero]; rfl, refuse_name rfl (.inl ?_)⟩
  rw [wordsL_nil]
  decide
end Lb

/-! Law k02, plainly: each drawn wrong line is refused in its place. -/
namespace Lb
open PySem L2 Hk
theorem mem_dl {α : Type} {x : α} {xs : List α} (h : x ∈ xs.dropLast) : x ∈ xs := by
  rw [List.dropLast_eq_take] at h
  exact List.mem_of_mem_take h
theorem common_bad {e : Draft} {l : Wd} {ws : List Wd} (hw : wordsL l = ws) (ho : okT l) (h10 : 10 ∉ l) (h1 : e.takes [[]] = none) (h2 : e.takes (ws ++ [[]]) = none) (h3 : e.takes ([] :: ws) = none) (h4 : e.takes (dblW ws) = none) (h5 : e.takes (ws ++ [[120]]) = none)
    (h6 : ws.dropLast ≠ [] → e.takes ws.dropLast = none) : ∀ w ∈ commonW l, e.takes (wordsL w) = none := by
  intro w hm
  unfold commonW at hm
  simp only [List.mem_cons, List.not_mem_nil, or_false] at hm
  rcases hm with rfl | rfl | rfl | rfl | rfl | rfl | rfl
  · rw [wordsL_nil]; exact h1
  · rw [wordsL_end, hw]; exact h2
  · rw [wordsL_beg, hw]; exact h3
  · rw [wordsL_dbl, hw]; exact h4
  · rw [wordsL_x, hw]; exact h5
  · by_cases c : (wordsL l).dropLast = []
    · rw [c]
      show e.takes (wordsL []) = none
      rw [wordsL_nil]; exact h1
    · rw [wordsL_spaced c fun w hw => wordsL_free l w (mem_dl hw), hw]
      rw [hw] at c
      exact h6 c
  · refine refuse_up fun w hw c hc => ?_
    have h : c ∈ up l := by
      rcases (spl_facts 32 (up l) []).2.1 w hw c hc with z | z
      · cases z
      · exact z
    exact ((up_low ho c h).resolve_right h10).1
theorem field_or {x : Wd} (h : isFieldB x = true) : x ≠ [] ∧ x.length ≤ 8 ∧ ∀ c ∈ x, c ∈ lets := by
  have h1 := isFieldB_word h
  unfold isWordB at h1
  rw [Bool.and_eq_true, List.all_eq_true, decide_eq_true_iff] at h1
  refine ⟨fun z => ?_, h1.1.2, fun c hc => of_decide_eq_true (h1.2 c hc)⟩
  rw [z] at h1
  simp at h1
theorem class_field {x : Wd} (h : isClassB x = true) : isFieldB x = false := by
  cases hf : isFieldB x with
  | false => rfl
  | true =>
    obtain ⟨h1, h2, h3⟩ := field_or hf
    unfold isClassB at h
    rw [Bool.and_eq_true, Bool.and_eq_true, decide_eq_true_iff, decide_eq_true_iff] at h
    cases x with
    | nil => exact absurd rfl h1
    | cons c r =>
      have hc : c ∈ caps := h.2.1
      exact absurd (h3 c (by simp)) ((by decide : ∀ c ∈ caps, c ∉ lets) c hc)
theorem q8_field {x : Wd} (h : x ≠ []) : isFieldB (x ++ q8) = false := by
  cases hf : isFieldB (x ++ q8) with
  | false => rfl
  | true =>
    have := (field_or hf).2.1
    rw [List.length_append] at this
    have h2 := List.length_pos_iff.mpr h
    have : q8.length = 8 := rfl
    omega
theorem badF_bad : ∀ x ∈ badF, isFieldB x = false ∧ 32 ∉ x ∧ 10 ∉ x ∧ okT x ∧ x.length ≤ 9 := by unfold okT; decide +kernel
theorem notNew {e : Draft} {x : Wd} (h : isFieldB x = false ∨ e.knows x = true) : e.isNew x = false := by
  unfold Draft.isNew
  rcases h with h | h
  · rw [h]; rfl
  · unfold Draft.knows at h
    rw [Bool.or_eq_true] at h
    rcases h with h | h
    · rw [h]; simp
    · rw [h]; simp
theorem wordsN {p : Wd} (h : 32 ∉ p) : wordsL (lineN p) = [wNeeds, p] := by
  unfold lineN
  rw [List.append_assoc, wordsL_cons (by decide), wordsL_one h]
theorem wordsK {x y : Wd} (h1 : 32 ∉ x) (h2 : 32 ∉ y) : wordsL (lineK x y) = [wKeeps, x, wOf, y] := by
  unfold lineK
  rw [show wKeeps ++ [32] ++ x ++ [32] ++ wOf ++ [32] ++ y = wKeeps ++ ([32] ++ (x ++ ([32] ++ (wOf ++ ([32] ++ y))))) by simp, wordsL_cons (by decide), wordsL_cons h1, wordsL_cons (by decide), wordsL_one h2]
theorem wordsName {x : Wd} (h : 32 ∉ x) : wordsL (wLibrary ++ [32] ++ x) = [wLibrary, x] := by
  rw [List.append_assoc, wordsL_cons (by decide), wordsL_one h]
theorem wordsH {x : Wd} : wordsL (lineH x) = wHook :: wordsL x := by
  unfold lineH
  rw [List.append_assoc, wordsL_cons (by decide)]
theorem known_sub {ls ps : List Wd} {nm : Wd} {ks : List (Wd × Wd)} (hn : 32 ∉ nm) (hp : ∀ p ∈ ps, 32 ∉ p) (hk : ∀ q ∈ ks, 32 ∉ q.1 ∧ 32 ∉ q.2) (h : ls = [wLibrary ++ [32] ++ nm] ++ ps.map lineN ++ ks.map (fun p => lineK p.1 p.2)) :
    knownL ls = ps ++ ks.map (·.1) := by
  have hN : ∀ xs : List Wd, (∀ p ∈ xs, 32 ∉ p) → knownL (xs.map lineN) = xs := by
    intro xs
    induction xs with
    | nil => intro _; rfl
    | cons x xs ih =>
      intro hx
      have e := wordsN (hx x (by simp))
      unfold knownL at ih ⊢
      rw [List.map_cons, List.filter_cons, if_pos (by rw [e]; exact decide_eq_true (by show _ ∈ _; simp)), List.map_cons, ih fun p hp => hx p (by simp [hp]), e]
      rfl
  have hK : ∀ xs : List (Wd × Wd), (∀ q ∈ xs, 32 ∉ q.1 ∧ 32 ∉ q.2) → knownL (xs.map (fun p => lineK p.1 p.2)) = xs.map (·.1) := by
    intro xs
    induction xs with
    | nil => intro _; rfl
    | cons x xs ih =>
      intro hx
      have e := wordsK (hx x (by simp)).1 (hx x (by simp)).2
      unfold knownL at ih ⊢
      rw [List.map_cons, List.filter_cons, if_pos (by rw [e]; exact decide_eq_true (by show _ ∈ _; simp)), List.map_cons, ih fun p hp => hx p (by simp [hp]), e]
      rfl
  have hL : knownL [wLibrary ++ [32] ++ nm] = [] := by
    unfold knownL
    rw [List.filter_cons, if_neg (by rw [wordsName hn]; show ¬ decide (wLibrary ∈ [wNeeds, wKeeps]) = true; decide)]
    rfl
  have hA : ∀ xs ys : List Wd, knownL (xs ++ ys) = knownL xs ++ knownL ys := by
    intro xs ys
    unfold knownL
    rw [List.filter_append, List.map_append]
  rw [h, hA, hA, hL, hN ps hp, hK ks hk]
  rfl
theorem keep_sp {d : Draft} (h : d.Lib) : ∀ q ∈ d.keeping, 32 ∉ q.1 ∧ 32 ∉ q.2 := by
  intro q hq
  obtain ⟨j, hj⟩ := List.getElem?_of_mem hq
  obtain ⟨z1, z2, z3, z4⟩ := h.kf j q hj
  refine ⟨(word_sp (isFieldB_word z1)).1, ?_⟩
  rcases z4 with z4 | z4
  · exact (word_sp (isFieldB_word (h.pf _ z4))).1
  · obtain ⟨y, hy, ey⟩ := List.mem_map.mp z4
    obtain ⟨j, hj⟩ := List.getElem?_of_mem (List.mem_of_mem_take hy)
    rw [← ey]
    exact (word_sp (isFieldB_word (h.kf j y hj).1)).1
theorem keep_src {d : Draft} (h : d.Lib) {q : Wd × Wd} (hq : q ∈ d.keeping) : isFieldB q.1 = true ∧ isFieldB q.2 = true := by
  obtain ⟨j, hj⟩ := List.getElem?_of_mem hq
  obtain ⟨z1, z2, z3, z4⟩ := h.kf j q hj
  refine ⟨z1, ?_⟩
  rcases z4 with z4 | z4
  · exact h.pf _ z4
  · obtain ⟨y, hy, ey⟩ := List.mem_map.mp z4
    obtain ⟨j, hj⟩ := List.getElem?_of_mem (List.mem_of_mem_take hy)
    rw [← ey]
    exact (h.kf j y hj).1
theorem part_sp {d : Draft} (h : d.Lib) : ∀ p ∈ d.parts, 32 ∉ p := fun p hp => (word_sp (isFieldB_word (h.pf p hp))).1
theorem okN {p : Wd} (h : okT p) : okT (lineN p) := okT_app (by unfold okT; decide) h
theorem okK {x y : Wd} (h1 : okT x) (h2 : okT y) : okT (lineK x y) := okT_app (okT_app (okT_app (okT_app (okT_app (by unfold okT; decide) h1) (by unfold okT; decide)) (by unfold okT; decide)) (by unfold okT; decide)) h2
theorem okH {x : Wd} (h : okT x) : okT (lineH x) := okT_app (by unfold okT; decide) h
theorem nl_app {x y : Wd} (h1 : 10 ∉ x) (h2 : 10 ∉ y) : 10 ∉ x ++ y := fun z => (List.mem_append.mp z).elim h1 h2
theorem nlN {p : Wd} (h : 10 ∉ p) : 10 ∉ lineN p := nl_app (by decide) h
theorem nlK {x y : Wd} (h1 : 10 ∉ x) (h2 : 10 ∉ y) : 10 ∉ lineK x y := nl_app (nl_app (nl_app (nl_app (nl_app (by decide) h1) (by decide)) (by decide)) (by decide)) h2
theorem nlH {x : Wd} (h : 10 ∉ x) : 10 ∉ lineH x := nl_app (by decide) h
theorem name0_bad : ∀ x ∈ name0, isClassB x = false ∧ 32 ∉ x := by decide +kernel
theorem bad_name {d : Draft} (h : d.Lib) {w : Wd} (hw : w ∈ commonW (wLibrary ++ [32] ++ d.name) ++ name0.map (wLibrary ++ [32] ++ ·)) : Bad d 0 w := by
  refine ⟨.empty, by unfold Pre; rw [List.take_zero]; rfl, ?_⟩
  have hsp := class_sp h.nm
  rcases List.mem_append.mp hw with hw | hw
  · refine common_bad (wordsName hsp.1) (okT_app (by unfold okT; decide) h.wf.nm.1) (nl_app (by decide) hsp.2) ?_ ?_ ?_ ?_ ?_ (fun _ => ?_) w hw
    · exact refuse_name rfl (.inl (by decide))
    · exact refuse_name rfl (.inl (by simp))
    · exact refuse_name rfl (.inl (by simp))
    · exact refuse_name rfl (.inl (by simp [dblW]))
    · exact refuse_name rfl (.inl (by simp))
    · exact refuse_name rfl (.inl (by simp))
  · obtain ⟨x, hx, rfl⟩ := List.mem_map.mp hw
    obtain ⟨h1, h2⟩ := name0_bad x hx
    rw [wordsName h2]
    exact refuse_name rfl (.inr (.inr h1))
theorem bad_needs {d : Draft} (h : d.Lib) {i : Nat} {p w : Wd} (hi : d.parts[i]? = some p) (hw : w ∈ commonW (lineN p) ++ (wrongF d (d.lines.take (1 + i))).map lineN) : Bad d (1 + i) w := by
  have hil := (List.getElem?_eq_some_iff.mp hi).1
  have hn := class_ne h.nm
  have hpm := List.mem_of_getElem? hi
  have hp := (part_sp h) p hpm
  have hsp := class_sp h.nm
  obtain ⟨e, he, e1, e2⟩ : ∃ e : Draft, Pre d (1 + i) e ∧ e.name = d.name ∧ e.parts = d.parts.take i := by
    by_cases h0 : 0 < i
    · exact ⟨_, pre_needs h (by omega) h0, rfl, rfl⟩
    · obtain rfl : i = 0 := by omega
      exact ⟨_, pre_one h, rfl, by rw [List.take_zero]⟩
  have hn' : e.name ≠ [] := by rw [e1]; exact hn
  refine ⟨e, he, ?_⟩
  rcases List.mem_append.mp hw with hw | hw
  · refine common_bad (wordsN hp) (okN (h.wf.pw p hpm).1) (nlN (word_sp (isFieldB_word (h.pf p hpm))).2) ?_ ?_ ?_ ?_ ?_ (fun _ => ?_) w hw
    · exact refuse_head hn' (by decide)
    · exact refuse_needs hn' rfl (.inl (by simp))
    · exact refuse_head hn' (by show [] ∉ heads4; decide)
    · exact refuse_needs hn' rfl (.inl (by simp [dblW]))
    · exact refuse_needs hn' rfl (.inl (by simp))
    · exact refuse_needs hn' rfl (.inl (by simp))
  · obtain ⟨x, hx, rfl⟩ := List.mem_map.mp hw
    have key : 32 ∉ x ∧ e.isNew x = false := by
      unfold wrongF at hx
      rcases List.mem_append.mp hx with hx | hx
      · rcases List.mem_append.mp hx with hx | hx
        · obtain ⟨b1, b2, _⟩ := badF_bad x hx
          exact ⟨b2, notNew (.inl b1)⟩
        · rw [List.mem_singleton.mp hx]
          exact ⟨hsp.1, notNew (.inl (class_field h.nm))⟩
      · rw [known_sub hsp.1 (fun q hq => part_sp h q (List.mem_of_mem_take hq)) (fun q hq => by cases hq) (lines_needs (by omega))] at hx
        have hx : x ∈ d.parts.take i := by simpa using hx
        refine ⟨part_sp h x (List.mem_of_mem_take hx), notNew (.inr ?_)⟩
        unfold Draft.knows
        rw [e2, decide_eq_true hx]
        rfl
    rw [wordsN key.1]
    exact refuse_needs hn' rfl (.inr key.2)
theorem bad_keeps {d : Draft} (h : d.Lib) {i : Nat} {q : Wd × Wd} {w : Wd} (hi : d.keeping[i]? = some q) (hw : w ∈ commonW (lineK q.1 q.2) ++ (wrongF d (d.lines.take (1 + d.parts.length + i))).map (fun x => lineK x q.2) ++ [q.1, [], d.name, q.2 ++ q8].map (lineK q.1)) : Bad d (1 + d.parts.length + i) w := by
  have hil := (List.getElem?_eq_some_iff.mp hi).1
  have hn := class_ne h.nm
  have hqm := List.mem_of_getElem? hi
  obtain ⟨p1, p2⟩ := keep_sp h q hqm
  obtain ⟨f1, f2⟩ := keep_src h hqm
  have hsp := class_sp h.nm
  refine ⟨_, pre_keeps h (by omega), ?_⟩
  have hkw := h.wf.kw q hqm
  rcases List.mem_append.mp hw with hw | hw
  · rcases List.mem_append.mp hw with hw | hw
    · refine common_bad (wordsK p1 p2) (okK hkw.1.1 hkw.2.1) (nlK (word_sp (isFieldB_word f1)).2 (word_sp (isFieldB_word f2)).2) ?_ ?_ ?_ ?_ ?_ (fun _ => ?_) w hw
      · exact refuse_head hn (by decide)
      · exact refuse_keeps hn h.p0 rfl (.inl (by simp))
      · exact refuse_head hn (by show [] ∉ heads4; decide)
      · exact refuse_keeps hn h.p0 rfl (.inl (by simp [dblW]))
      · exact refuse_keeps hn h.p0 rfl (.inl (by simp))
      · exact refuse_keeps hn h.p0 rfl (.inl (by simp))
    · obtain ⟨x, hx, rfl⟩ := List.mem_map.mp hw
      have key : 32 ∉ x ∧ (isFieldB x = false ∨ x ∈ d.parts ∨ x ∈ (d.keeping.take i).map (·.1)) := by
        unfold wrongF at hx
        rcases List.mem_append.mp hx with hx | hx
        · rcases List.mem_append.mp hx with hx | hx
          · obtain ⟨b1, b2, _⟩ := badF_bad x hx
            exact ⟨b2, .inl b1⟩
          · rw [List.mem_singleton.mp hx]
            exact ⟨hsp.1, .inl (class_field h.nm)⟩
        · rw [known_sub hsp.1 (part_sp h) (fun q hq => keep_sp h q (List.mem_of_mem_take hq)) (lines_keeps (by omega))] at hx
          rcases List.mem_append.mp hx with hx | hx
          · exact ⟨part_sp h x hx, .inr (.inl hx)⟩
          · refine ⟨?_, .inr (.inr hx)⟩
            obtain ⟨y, hy, rfl⟩ := List.mem_map.mp hx
            exact (keep_sp h y (List.mem_of_mem_take hy)).1
      rw [wordsK key.1 p2]
      refine refuse_keeps hn h.p0 rfl (.inr (.inl (notNew ?_)))
      rcases key.2 with k | k | k
      · exact .inl k
      · refine .inr ?_
        unfold Draft.knows
        show (decide (x ∈ d.parts) || _) = true
        rw [decide_eq_true k]
        rfl
      · refine .inr ?_
        unfold Draft.knows
        show (_ || decide (x ∈ (d.keeping.take i).map (·.1))) = true
        rw [decide_eq_true k, Bool.or_true]
  · obtain ⟨y, hy, rfl⟩ := List.mem_map.mp hw
    obtain ⟨z1, z2, z3, z4⟩ := h.kf i q hi
    have no : ∀ y, isFieldB y = false → y ∉ d.parts ∧ y ∉ (d.keeping.take i).map (·.1) := by
      intro y hy
      refine ⟨fun z => ?_, fun z => ?_⟩
      · rw [h.pf y z] at hy; cases hy
      · obtain ⟨u, hu, rfl⟩ := List.mem_map.mp z
        rw [(keep_src h (List.mem_of_mem_take hu)).1] at hy
        cases hy
    have key : 32 ∉ y ∧ y ∉ d.parts ∧ y ∉ (d.keeping.take i).map (·.1) := by
      simp only [List.mem_cons, List.not_mem_nil, or_false] at hy
      rcases hy with rfl | rfl | rfl | rfl
      · exact ⟨p1, z2, z3⟩
      · exact ⟨by simp, no _ (by decide)⟩
      · exact ⟨hsp.1, no _ (class_field h.nm)⟩
      · refine ⟨fun z => (List.mem_append.mp z).elim p2 (by decide), no _ (q8_field (field_or f2).1)⟩
    rw [wordsK p1 key.1]
    exact refuse_keeps hn h.p0 rfl (.inr (.inr key.2))
theorem hookBad_bad : ∀ x ∈ hookBad, (wordsL x).length ≠ 1 ∨ ((wordsL x).getD 0 [] ∉ hooks ∧ (wordsL x).getD 0 [] ≠ wBare) := by decide +kernel
theorem bad_hook {d : Draft} (h : d.Lib) {x w : Wd} (hx : d.hook = some x) (hw : w ∈ commonW (lineH x) ++ hookBad.map lineH) : Bad d (1 + d.parts.length + d.keeping.length) w := by
  have hn := class_ne h.nm
  have hx2 := h.hk x hx
  have hxs : 32 ∉ x ∧ 10 ∉ x := by
    rcases hx2 with hx | hx
    · exact (by decide : ∀ w ∈ hooks, 32 ∉ w ∧ 10 ∉ w) x hx
    · rw [hx]; decide
  have ew : wordsL (lineH x) = [wHook, x] := by rw [wordsH, wordsL_one hxs.1]
  refine ⟨_, pre_keeps h (Nat.le_refl _), ?_⟩
  rcases List.mem_append.mp hw with hw | hw
  · refine common_bad ew (okH (h.wf.hk x hx).1) (nlH hxs.2) ?_ ?_ ?_ ?_ ?_ (fun _ => ?_) w hw
    · exact refuse_head hn (by decide)
    · exact refuse_hook hn h.p0 rfl (.inl (by simp))
    · exact refuse_head hn (by show [] ∉ heads4; decide)
    · exact refuse_hook hn h.p0 rfl (.inl (by simp [dblW]))
    · exact refuse_hook hn h.p0 rfl (.inl (by simp))
    · exact refuse_hook hn h.p0 rfl (.inl (by simp))
  · obtain ⟨y, hy, rfl⟩ := List.mem_map.mp hw
    rw [wordsH]
    refine refuse_hook hn h.p0 rfl ?_
    rcases hookBad_bad y hy with z | z
    · exact .inl (by rw [List.length_cons]; omega)
    · exact .inr (by
        rw [List.getD_cons_succ]
        exact z)
theorem dl_row {s : Wd} {ch ms : List Wd} (h : ms ≠ []) : (rowWs s ch ++ ms).dropLast = rowWs s ch ++ ms.dropLast := List.dropLast_append_of_ne_nil h
theorem rowWs_ne (s : Wd) (ch : List Wd) : rowWs s ch ≠ [] := by
  unfold rowWs
  split
  · simp
  · split <;> simp
theorem refuse_dbl {e : Draft} {s : Wd} {ch ms : List Wd} (hn : e.name ≠ []) (h0 : e.parts ≠ []) (h : SignOk e.parts s ch) : e.takes (dblW (rowWs s ch ++ ms)) = none := by
  unfold rowWs
  rcases h with ⟨hs, hc⟩ | ⟨h1, h2, h3, hc⟩
  · obtain ⟨q1, q2, q3, q4, q5, q6, q7, q8⟩ := sign_sp s (List.mem_append.mpr hs)
    rw [if_neg q8]
    by_cases he : ch = []
    · rw [if_pos he]
      exact refuse_second hn h0 hs (by decide) (by decide)
    · rw [if_neg he]
      exact refuse_second hn h0 hs (by decide) (by decide)
  · rw [if_pos (req_ar h2 h3)]
    exact refuse_make hn h0 rfl (.inr (.inr (.inl (by show isWordB [] = false; decide))))
theorem oddOps_bad : ∀ x ∈ oddOps, (wordsL (x ++ wNamedB)).getD 0 [] ∉ heads4 ∨ ((wordsL (x ++ wNamedB)).getD 0 [] = wMake ∧ ((wordsL (x ++ wNamedB)).length < 4 ∨ (wordsL (x ++ wNamedB)).getD 2 [] ≠ wBy ∨ isWordB ((wordsL (x ++ wNamedB)).getD 1 []) = false ∨ (wordsL (x ++ wNamedB)).getD 1 [] ∈ unS)) := by decide +kernel
theorem words_flat : ∀ (ch : List Wd) (r : Wd), (∀ c ∈ ch, 32 ∉ c) → wordsL (ch.flatMap (· ++ [32]) ++ r) = ch ++ wordsL r
  | [], r, _ => rfl
  | c :: ch, r, h => by
    rw [List.flatMap_cons, show c ++ [32] ++ ch.flatMap (· ++ [32]) ++ r = c ++ ([32] ++ (ch.flatMap (· ++ [32]) ++ r)) by simp, wordsL_cons (h c (by simp)), words_flat ch r fun x hx => h x (by simp [hx])]
    rfl
theorem words_by : wordsL [98, 121, 32, 110, 97, 109, 101, 100] = [wBy, wNamed] := by decide +kernel
theorem wordsC {s : Wd} {ch : List Wd} (hs : 32 ∉ s) (h : ∀ c ∈ ch, 32 ∉ c) : wordsL (lineC s ch) = s :: wChanges :: (ch ++ [wBy, wNamed]) := by
  unfold lineC
  rw [show s ++ [32] ++ wChanges ++ [32] ++ ch.flatMap (· ++ [32]) ++ [98, 121, 32, 110, 97, 109, 101, 100] = s ++ ([32] ++ (wChanges ++ ([32] ++ (ch.flatMap (· ++ [32]) ++ [98, 121, 32, 110, 97, 109, 101, 100])))) by simp, wordsL_cons hs, wordsL_cons (by decide), words_flat ch _ h, words_by]
theorem head_mem {ps : List Wd} (h : ps ≠ []) : ps.headD [] ∈ ps := by
  cases ps with
  | nil => exact absurd rfl h
  | cons x xs => simp
theorem by_field {p : Wd} (h : isFieldB p = true) : p ≠ wBy := fun z => by
  rw [z] at h
  exact absurd h (by decide)
theorem filter_self_rev {ps : List Wd} : ps.filter (fun p => decide (p ∈ ps.reverse)) = ps := by
  rw [List.filter_eq_self]
  intro p hp
  simpa using hp
theorem rev_ne {ps : List Wd} (hn : ps.Nodup) (hl : 1 < ps.length) : ps.reverse ≠ ps := by
  intro z
  have h0 : ps[0]? = ps.reverse[0]? := by rw [z]
  rw [List.getElem?_reverse (by omega), List.getElem?_eq_getElem (by omega), List.getElem?_eq_getElem (by omega)] at h0
  have := (List.getElem_inj hn).mp (Option.some.inj h0)
  omega
theorem chs_bad {d : Draft} (h : d.Lib) {e : Draft} (he : e.parts = d.parts) {s : Wd} (hn : e.name ≠ []) (hs : s ∈ binS ∨ s ∈ unS) : ∀ ch ∈ chs d ++ [d.parts.reverse], (ch = d.parts.reverse → 1 < d.parts.length) →  e.takes (wordsL (lineC s ch)) = none := by
  have hsp := (sign_sp s (List.mem_append.mpr hs)).1
  have hp0 : e.parts ≠ [] := by rw [he]; exact h.p0
  have hf := head_mem h.p0
  generalize hfe : d.parts.headD [] = f at hf
  have hff := h.pf f hf
  have hfs := part_sp h f hf
  have one : ∀ ch : List Wd, (∀ c ∈ ch, 32 ∉ c) → wBy ∉ ch → (ch = [] ∨ ch ≠ d.parts.filter (fun p => decide (p ∈ ch))) → e.takes (wordsL (lineC s ch)) = none := by
    intro ch h1 h2 h3
    rw [wordsC hsp h1]
    show e.takes (s :: wChanges :: (ch ++ wBy :: [wNamed])) = none
    rw [takes_op hn hp0 hs h2, he, if_pos h3]
  have out : ∀ x, x ∉ d.parts → d.parts.filter (fun p => decide (p ∈ [x])) = [] := by
    intro x hx
    rw [List.filter_eq_nil_iff]
    intro p hp
    simp
    exact fun z => hx (z ▸ hp)
  intro ch hch hre
  unfold chs at hch
  rw [hfe] at hch
  simp only [List.cons_append, List.nil_append, List.mem_cons, List.not_mem_nil, or_false] at hch
  rcases hch with rfl | rfl | rfl | rfl | rfl | rfl | rfl
  · refine one _ (by simpa using hfs) (by simpa using (by_field hff).symm) (.inr fun z => ?_)
    have hnd := h.pn.filter (fun p => decide (p ∈ [f, f]))
    rw [← z] at hnd
    simp at hnd
  · refine one _ (fun c hc => part_sp h c (by simpa using hc)) (fun z => by_field (h.pf wBy (by simpa using z)) rfl) (.inr fun z => ?_)
    have := congrArg List.length z
    have h2 := List.length_filter_le (fun p => decide (p ∈ d.parts.reverse ++ d.parts)) d.parts
    have h3 := List.length_pos_iff.mpr h.p0
    rw [List.length_append, List.length_reverse] at this
    omega
  · exact one _ (by simp) (by simp) (.inl rfl)
  · have hq := q8_field (field_or hff).1
    refine one _ (fun c hc => ?_) (fun z => ?_) (.inr ?_)
    · rw [List.mem_singleton.mp hc]
      exact fun z => (List.mem_append.mp z).elim hfs (by decide)
    · have e1 := List.mem_singleton.mp z
      have := congrArg List.length e1
      rw [List.length_append] at this
      have h8 : q8.length = 8 := rfl
      have h2 : wBy.length = 2 := rfl
      omega
    · rw [out _ fun z => by rw [h.pf _ z] at hq; cases hq]
      simp
  · cases hk : d.keeping with
    | nil =>
      rw [List.map_nil, List.take_nil]
      exact one _ (by simp) (by simp) (.inl rfl)
    | cons q ks =>
      rw [List.map_cons, List.take_succ_cons, List.take_zero]
      obtain ⟨z1, z2, z3, z4⟩ := h.kf 0 q (by rw [hk]; rfl)
      refine one _ (fun c hc => ?_) (fun z => ?_) (.inr ?_)
      · rw [List.mem_singleton.mp hc]
        exact (word_sp (isFieldB_word z1)).1
      · exact by_field z1 (List.mem_singleton.mp z).symm
      · rw [out _ z2]
        simp
  · rw [wordsC hsp (by
      intro c hc
      simp only [List.mem_cons, List.not_mem_nil, or_false] at hc
      rcases hc with rfl | rfl
      · exact hfs
      · decide)]
    show e.takes (s :: wChanges :: ([f] ++ wBy :: [wBy, wNamed])) = none
    rw [takes_op hn hp0 hs (by simpa using (by_field hff).symm)]
    split
    · rfl
    · refine refuse_row fun z => ?_
      exact absurd (mkFor_mk2 z) (by decide +kernel)
  · have hlen := hre rfl
    refine one _ (fun c hc => part_sp h c (by simpa using hc)) (fun z => by_field (h.pf wBy (by simpa using z)) rfl) (.inr ?_)
    rw [filter_self_rev]
    exact rev_ne h.pn hlen
theorem lineC_rev {s : Wd} {ps : List Wd} (h : ps ≠ []) : s ++ [32] ++ wChanges ++ [32] ++ spaced ps ++ wNamedB = lineC s ps := by
  have : ∀ xs : List Wd, xs ≠ [] → xs.flatMap (· ++ [32]) = spaced xs ++ [32] := by
    intro xs
    induction xs with
    | nil => intro h; exact absurd rfl h
    | cons x xs ih =>
      intro _
      cases xs with
      | nil => simp [spaced, TL.joinL]
      | cons y ys =>
        rw [List.flatMap_cons, ih (by simp)]
        show x ++ [32] ++ (spaced (y :: ys) ++ [32]) = (x ++ ([32] ++ spaced (y :: ys))) ++ [32]
        simp
  unfold lineC
  rw [this ps h]
  simp [wNamedB]
theorem bad_row {d : Draft} (h : d.Lib) {i : Nat} {r : Row3} {w : Wd} (hi : d.rows[i]? = some r) (hw : w ∈ commonW r.line ++ wrongOps d r) : Bad d (d.heads.length + i) w := by
  have hil := (List.getElem?_eq_some_iff.mp hi).1
  have hrm := List.mem_of_getElem? hi
  have hn := class_ne h.nm
  have hS := h.rs r hrm
  have hM := h.rm r hrm
  have hm2 := mkFor_mk2 hM
  obtain ⟨m1, m2, m3, m4⟩ := mk2_off r.maker hm2
  have no : ∀ x, x ∉ mk2 → x ∉ mkFor (arityN r.sign) d.hook.isSome := fun x hx z => hx (mkFor_mk2 z)
  refine ⟨_, pre_rows h (by omega), ?_⟩
  generalize he : ({ d with rows := d.rows.take i } : Draft) = e
  have en : e.name ≠ [] := by rw [← he]; exact hn
  have ep : e.parts = d.parts := by rw [← he]
  have ek : e.hook = d.hook := by rw [← he]
  have ep0 : e.parts ≠ [] := by rw [ep]; exact h.p0
  have epf : ∀ p ∈ e.parts, isFieldB p = true := by rw [ep]; exact h.pf
  have eS : SignOk e.parts r.sign r.changed := by rw [ep]; exact hS
  have mk : ∀ x, x ∉ mkFor (arityN r.sign) d.hook.isSome → e.takes (wordsL (Row3.line ⟨r.sign, r.changed, x⟩)) = none := by
    intro x hx
    rw [takes_row x en ep0 epf eS]
    exact refuse_row (by rw [ek]; exact hx)
  have hwl : wordsL r.line = rowWs r.sign r.changed ++ wordsL r.maker := row_words r.maker h.pf hS
  have rwm : ∀ ms, spaced ms ∉ mkFor (arityN r.sign) d.hook.isSome → e.takes (rowWs r.sign r.changed ++ ms) = none := fun ms hx => refuse_rowW ms en ep0 epf eS (by rw [ek]; exact hx)
  have j1 : ∀ x, spaced (wordsL x) = x := joinL_spl
  have hx1 : wordsL r.maker ++ [[]] = wordsL (r.maker ++ [32]) := (wordsL_end _).symm
  have hx2 : wordsL r.maker ++ [[120]] = wordsL (r.maker ++ [32, 120]) := (wordsL_x _).symm
  have wfr := h.wf.rw r hrm
  rcases List.mem_append.mp hw with hw | hw
  · refine common_bad hwl (row_okT wfr.s.1 (fun w hw => (wfr.c w hw).1) wfr.m.1) (line_nl h d.rows (fun q hq => ⟨h.rs q hq, Lib_nl h q hq⟩) r.line (List.mem_append_right _ (List.mem_map.mpr ⟨r, hrm, rfl⟩))) ?_ ?_ ?_ ?_ ?_ (fun _ => ?_) w hw
    · exact refuse_head en (by decide)
    · rw [List.append_assoc, hx1]
      exact rwm _ (by rw [j1]; exact no _ m1)
    · exact refuse_head en (by show [] ∉ heads4; decide)
    · exact refuse_dbl en ep0 eS
    · rw [List.append_assoc, hx2]
      exact rwm _ (by rw [j1]; exact no _ m2)
    · rw [dl_row (wordsL_ne _)]
      exact rwm _ (no _ m4)
  · unfold wrongOps at hw
    rcases List.mem_append.mp hw with hw | hw
    · rcases List.mem_append.mp hw with hw | hw
      · rcases List.mem_append.mp hw with hw | hw
        · obtain ⟨x, hx, rfl⟩ := List.mem_map.mp hw
          rw [← line_begin]
          refine mk x fun z => ?_
          have := (List.mem_filter.mp hx).2
          simp [z] at this
        · simp only [List.mem_cons, List.not_mem_nil, or_false] at hw
          rcases hw with rfl | rfl
          · have hb : wordsL (beginL r.sign r.changed) = (rowWs r.sign r.changed).dropLast := by
              have q := row_words (s := r.sign) (ch := r.changed) [] h.pf hS
              rw [line_begin] at q
              rw [show beginL r.sign r.changed ++ [32] ++ wBy ++ [32] ++ [] = beginL r.sign r.changed ++ ([32] ++ (wBy ++ ([32] ++ []))) by simp, wordsL_sp, wordsL_cons (by decide), wordsL_nil] at q
              have q2 : wordsL (beginL r.sign r.changed) ++ [wBy] = rowWs r.sign r.changed := by
                have q3 : (wordsL (beginL r.sign r.changed) ++ [wBy]) ++ [[]] = rowWs r.sign r.changed ++ [[]] := by simpa using q
                exact List.append_cancel_right q3
              rw [← q2, List.dropLast_concat]
            rw [hb]
            unfold rowWs
            rcases eS with ⟨hs, hc⟩ | ⟨h1, h2, h3, hc⟩
            · obtain ⟨q1, q2, q3, q4, q5, q6, q7, q8⟩ := sign_sp r.sign (List.mem_append.mpr hs)
              rw [if_neg q8]
              by_cases hce : r.changed = []
              · rw [if_pos hce]
                exact refuse_by en ep0 hs rfl (by simpa using q7.symm)
              · rw [if_neg hce]
                have e3 : (r.sign :: wChanges :: (r.changed ++ [wBy])).dropLast = r.sign :: wChanges :: r.changed := by
                  rw [show r.sign :: wChanges :: (r.changed ++ [wBy]) = (r.sign :: wChanges :: r.changed) ++ [wBy] by simp, List.dropLast_concat]
                rw [e3]
                refine refuse_by en ep0 hs rfl (fun z => ?_)
                rcases List.mem_cons.mp z with z | z
                · exact q7 z.symm
                · rcases List.mem_cons.mp z with z | z
                  · exact absurd z (by decide)
                  · rw [hc] at z
                    exact by_field (epf wBy (List.mem_filter.mp z).1) rfl
            · rw [if_pos (req_ar h2 h3)]
              exact refuse_make en ep0 rfl (.inl (by show 2 < 4; decide))
          · have := mk (wBy ++ [32] ++ r.maker) (no _ m3)
            rw [line_begin] at this
            rw [show beginL r.sign r.changed ++ [32] ++ wBy ++ [32] ++ wBy ++ [32] ++ r.maker = beginL r.sign r.changed ++ [32] ++ wBy ++ [32] ++ (wBy ++ [32] ++ r.maker) by simp]
            exact this
      · obtain ⟨x, hx, rfl⟩ := List.mem_map.mp hw
        rcases oddOps_bad x hx with z | ⟨z1, z2⟩
        · exact refuse_head en z
        · exact refuse_make en ep0 z1 z2
    · by_cases ha : arityN r.sign = 0
      · rw [if_pos ha] at hw; cases hw
      · rw [if_neg ha] at hw
        have hs : r.sign ∈ binS ∨ r.sign ∈ unS := by
          rcases hS with ⟨hs, _⟩ | ⟨_, h2, h3, _⟩
          · exact hs
          · exact absurd (req_ar h2 h3) ha
        have C := chs_bad h ep en hs
        rcases List.mem_append.mp hw with hw | hw
        · obtain ⟨ch, hch, rfl⟩ := List.mem_map.mp hw
          by_cases hcr : ch = d.parts.reverse ∧ ¬ 1 < d.parts.length
          · obtain ⟨hc1, hc2⟩ := hcr
            exfalso
            have hl1 : d.parts.length = 1 := by
              have := List.length_pos_iff.mpr h.p0
              omega
            obtain ⟨p, hp⟩ := List.length_eq_one_iff.mp hl1
            unfold chs at hch
            rw [hp] at hch hc1
            rw [hc1] at hch
            simp only [List.reverse_cons, List.reverse_nil, List.nil_append, List.headD_cons, List.mem_cons, List.not_mem_nil, or_false, List.cons_append, List.cons.injEq, reduceCtorEq, and_false, false_or] at hch
            rcases hch with z | z
            · have := congrArg List.length z.1
              rw [List.length_append] at this
              have h8 : q8.length = 8 := rfl
              omega
            · cases hk : d.keeping with
              | nil => rw [hk] at z; simp at z
              | cons q ks =>
                rw [hk] at z
                simp at z
                have := (h.kf 0 q (by rw [hk]; rfl)).2.1
                rw [hp, ← z] at this
                simp at this
          · exact C ch (List.mem_append_left _ hch) fun z => Decidable.not_not.mp fun y => hcr ⟨z, y⟩
        · split at hw
          · rename_i hl
            rw [List.mem_singleton.mp hw, lineC_rev (by simpa using h.p0)]
            exact C _ (by simp) fun _ => hl
          · cases hw
theorem wrongs_bad {d : Draft} (h : d.Lib) {k : Nat} {ws : List Wd} (hW : Wrongs d k ws) : ∀ w ∈ ws, Bad d k w := by
  intro w hw
  cases hW with
  | name => exact bad_name h hw
  | needs i p hi => exact bad_needs h hi hw
  | keeps i q hi => exact bad_keeps h hi hw
  | hook x hx => exact bad_hook h hx hw
  | row i r hi => exact bad_row h hi hw
end Lb

/-! Law k02, plainly: the drawn wrong lines are short and hold no line feed. -/
namespace Lb
open PySem L2 Hk
structure Fit (w : Wd) : Prop where
  ok : okT w
  nl : 10 ∉ w
  ln : w.length ≤ 300
theorem Fit.app {x y : Wd} {n m : Nat} (hx : okT x ∧ 10 ∉ x ∧ x.length ≤ n) (hy : okT y ∧ 10 ∉ y ∧ y.length ≤ m) : okT (x ++ y) ∧ 10 ∉ x ++ y ∧ (x ++ y).length ≤ n + m :=
  ⟨okT_app hx.1 hy.1, nl_app hx.2.1 hy.2.1, by rw [List.length_append]; have := hx.2.2; have := hy.2.2; omega⟩
theorem joinL_mem {sep : Wd} : ∀ {ws : List Wd} {c : Nat}, c ∈ TL.joinL sep ws → c ∈ sep ∨ ∃ w ∈ ws, c ∈ w
  | [], c, h => by cases h
  | [w], c, h => .inr ⟨w, by simp, h⟩
  | w :: v :: r, c, h => by
    have h : c ∈ w ++ (sep ++ TL.joinL sep (v :: r)) := h
    rcases List.mem_append.mp h with h | h
    · exact .inr ⟨w, by simp, h⟩
    · rcases List.mem_append.mp h with h | h
      · exact .inl h
      · rcases joinL_mem h with h | ⟨x, hx, hc⟩
        · exact .inl h
        · exact .inr ⟨x, List.mem_cons_of_mem _ hx, hc⟩
theorem words_mem {l w : Wd} {c : Nat} (hw : w ∈ wordsL l) (hc : c ∈ w) : c ∈ l := by
  rcases (spl_facts 32 l []).2.1 w hw c hc with z | z
  · cases z
  · exact z
theorem words_sum (l : Wd) : ((wordsL l).map (·.length)).sum + (wordsL l).length = l.length + 1 := splitL_sum 32 l
theorem dbl_len (l : Wd) : (dbl l).length ≤ 2 * l.length + 2 := by
  have h := joinL_len [32, 32] (wordsL l)
  have h2 : (dbl l).length ≤ ((wordsL l).map (·.length)).sum + (wordsL l).length * 2 := h
  have := words_sum l
  omega
theorem dl_sum (ws : List Wd) : (ws.dropLast.map (·.length)).sum + ws.dropLast.length ≤ (ws.map (·.length)).sum + ws.length := by
  rw [List.dropLast_eq_take]
  generalize ws.length - 1 = n
  induction ws generalizing n with
  | nil => simp
  | cons x xs ih =>
    cases n with
    | zero => simp
    | succ n =>
      have := ih n
      rw [List.take_succ_cons, List.map_cons, List.sum_cons, List.length_cons, List.map_cons, List.sum_cons, List.length_cons]
      omega
theorem common_fit {l : Wd} (ho : okT l) (h10 : 10 ∉ l) (hl : l.length ≤ 120) : ∀ w ∈ commonW l, Fit w := by
  intro w hm
  unfold commonW at hm
  simp only [List.mem_cons, List.not_mem_nil, or_false] at hm
  rcases hm with rfl | rfl | rfl | rfl | rfl | rfl | rfl
  · exact ⟨okT_nil, by simp, by simp⟩
  · exact ⟨okT_app ho (by unfold okT; decide), nl_app h10 (by decide), by simp; omega⟩
  · exact ⟨okT_app (by unfold okT; decide) ho, nl_app (by decide) h10, by simp; omega⟩
  · refine ⟨fun c hc => ?_, fun hc => ?_, by have := dbl_len l; omega⟩
    · rcases joinL_mem hc with z | ⟨x, hx, z⟩
      · exact (by decide : ∀ c ∈ [32, 32], c < 128) c z
      · exact ho c (words_mem hx z)
    · rcases joinL_mem hc with z | ⟨x, hx, z⟩
      · exact absurd z (by decide)
      · exact h10 (words_mem hx z)
  · exact ⟨okT_app ho (by unfold okT; decide), nl_app h10 (by decide), by simp; omega⟩
  · refine ⟨fun c hc => ?_, fun hc => ?_, ?_⟩
    · rcases joinL_mem hc with z | ⟨x, hx, z⟩
      · exact (by decide : ∀ c ∈ [32], c < 128) c z
      · exact ho c (words_mem (mem_dl hx) z)
    · rcases joinL_mem hc with z | ⟨x, hx, z⟩
      · exact absurd z (by decide)
      · exact h10 (words_mem (mem_dl hx) z)
    · have h := joinL_len [32] (wordsL l).dropLast
      have h2 : (spaced (wordsL l).dropLast).length ≤ ((wordsL l).dropLast.map (·.length)).sum + (wordsL l).dropLast.length * 1 := h
      have := words_sum l
      have := dl_sum (wordsL l)
      omega
  · refine ⟨up_ok ho, fun z => ?_, by show (l.map _).length ≤ 300; rw [List.length_map]; omega⟩
    rcases up_low ho 10 z with y | y
    · exact y.2 rfl
    · exact h10 y
theorem field_fit {x : Wd} (h : isFieldB x = true) : okT x ∧ 10 ∉ x ∧ x.length ≤ 9 := ⟨isWordB_ok (isFieldB_word h), (word_sp (isFieldB_word h)).2, by have := (field_or h).2.1; omega⟩
theorem name_fit {d : Draft} (h : d.Lib) : okT d.name ∧ 10 ∉ d.name ∧ d.name.length ≤ 9 := ⟨h.wf.nm.1, (class_sp h.nm).2, by have := h.wf.nm.2; omega⟩
theorem wrongF_fit {d : Draft} (h : d.Lib) {ls ps : List Wd} {ks : List (Wd × Wd)} (hp : ∀ p ∈ ps, isFieldB p = true) (hk : ∀ q ∈ ks, isFieldB q.1 = true ∧ isFieldB q.2 = true) (e : ls = [wLibrary ++ [32] ++ d.name] ++ ps.map lineN ++ ks.map (fun p => lineK p.1 p.2)) :
    ∀ x ∈ wrongF d ls, okT x ∧ 10 ∉ x ∧ x.length ≤ 9 := by
  intro x hx
  unfold wrongF at hx
  rcases List.mem_append.mp hx with hx | hx
  · rcases List.mem_append.mp hx with hx | hx
    · obtain ⟨_, _, b3, b4, b5⟩ := badF_bad x hx
      exact ⟨b4, b3, b5⟩
    · rw [List.mem_singleton.mp hx]
      exact name_fit h
  · rw [known_sub (class_sp h.nm).1 (fun p hp' => (word_sp (isFieldB_word (hp p hp'))).1) (fun q hq => ⟨(word_sp (isFieldB_word (hk q hq).1)).1, (word_sp (isFieldB_word (hk q hq).2)).1⟩) e] at hx
    rcases List.mem_append.mp hx with hx | hx
    · exact field_fit (hp x hx)
    · obtain ⟨q, hq, rfl⟩ := List.mem_map.mp hx
      exact field_fit (hk q hq).1
theorem fitN {x : Wd} (h : okT x ∧ 10 ∉ x ∧ x.length ≤ 9) : okT (lineN x) ∧ 10 ∉ lineN x ∧ (lineN x).length ≤ 15 := ⟨okN h.1, nlN h.2.1, by have := h.2.2; simp [lineN, wNeeds]; omega⟩
theorem fitK {x y : Wd} {n : Nat} (h : okT x ∧ 10 ∉ x ∧ x.length ≤ 9) (h2 : okT y ∧ 10 ∉ y ∧ y.length ≤ n) : okT (lineK x y) ∧ 10 ∉ lineK x y ∧ (lineK x y).length ≤ 20 + n := ⟨okK h.1 h2.1, nlK h.2.1 h2.2.1, by have := h.2.2; have := h2.2.2; simp [lineK, wKeeps, wOf]; omega⟩
theorem fitOf {w : Wd} {n : Nat} (h : okT w ∧ 10 ∉ w ∧ w.length ≤ n) (hn : n ≤ 300) : Fit w := ⟨h.1, h.2.1, Nat.le_trans h.2.2 hn⟩
theorem begin_fit {d : Draft} (h : d.Lib) {r : Row3} (hr : r ∈ d.rows) : okT (beginL r.sign r.changed) ∧ 10 ∉ beginL r.sign r.changed ∧ (beginL r.sign r.changed).length ≤ 100 := by
  have wr := h.wf.rw r hr
  have e := line_begin r.sign r.changed []
  have h1 : okT (Row3.line ⟨r.sign, r.changed, []⟩) := row_okT wr.s.1 (fun w hw => (wr.c w hw).1) okT_nil
  have h2 := row_line_len (r := ⟨r.sign, r.changed, []⟩) ⟨wr.s, wr.l, wr.c, ⟨okT_nil, by simp⟩⟩
  have h3 : 10 ∉ Row3.line ⟨r.sign, r.changed, []⟩ := line_nl h [⟨r.sign, r.changed, []⟩] (fun q hq => by rw [List.mem_singleton.mp hq]; exact ⟨h.rs r hr, by simp⟩) _ (by simp)
  have sub : ∀ c ∈ beginL r.sign r.changed, c ∈ Row3.line ⟨r.sign, r.changed, []⟩ := fun c hc => by rw [e]; simp [hc]
  refine ⟨fun c hc => h1 c (sub c hc), fun hc => h3 (sub 10 hc), ?_⟩
  have : (beginL r.sign r.changed).length ≤ (Row3.line ⟨r.sign, r.changed, []⟩).length := by
    rw [e]; simp
  omega
theorem mks_fit : ∀ m ∈ mkFor 2 true ++ oddMk, okT m ∧ 10 ∉ m ∧ m.length ≤ 20 := by unfold okT; decide +kernel
theorem mk2_fit : ∀ m ∈ mk2, okT m ∧ 10 ∉ m ∧ m.length ≤ 20 := by unfold okT; decide +kernel
theorem odd_fit : ∀ m ∈ oddOps, okT (m ++ wNamedB) ∧ 10 ∉ m ++ wNamedB ∧ (m ++ wNamedB).length ≤ 30 := by unfold okT; decide +kernel
theorem flat_fit {n : Nat} : ∀ {ch : List Wd}, (∀ c ∈ ch, okT c ∧ 10 ∉ c ∧ c.length ≤ n) → okT (ch.flatMap (· ++ [32])) ∧ 10 ∉ ch.flatMap (· ++ [32]) ∧ (ch.flatMap (· ++ [32])).length ≤ ch.length * (n + 1)
  | [], _ => ⟨okT_nil, by simp, by simp⟩
  | c :: ch, h => by
    have ih := flat_fit (ch := ch) fun x hx => h x (List.mem_cons_of_mem _ hx)
    have hc := h c (by simp)
    rw [List.flatMap_cons]
    have := Fit.app (Fit.app hc (y := [32]) (m := 1) ⟨by unfold okT; decide, by decide, by simp⟩) ih
    refine ⟨this.1, this.2.1, ?_⟩
    have h3 := this.2.2
    rw [List.length_cons, Nat.succ_mul]
    omega
theorem lineC_fit {s : Wd} {ch : List Wd} (hs : okT s ∧ 10 ∉ s ∧ s.length ≤ 8) (h : ∀ c ∈ ch, okT c ∧ 10 ∉ c ∧ c.length ≤ 17) (hl : ch.length ≤ 6) : Fit (lineC s ch) := by
  have hf := flat_fit h
  have := Fit.app (Fit.app (Fit.app (Fit.app (Fit.app hs (y := [32]) (m := 1) ⟨by unfold okT; decide, by decide, by simp⟩) (y := wChanges) (m := 7) ⟨by unfold okT; decide, by decide, by decide⟩) (y := [32]) (m := 1) ⟨by unfold okT; decide, by decide, by simp⟩) hf) (y := [98, 121, 32, 110, 97, 109, 101, 100]) (m := 8) ⟨by unfold okT; decide, by decide, by simp⟩
  refine ⟨this.1, this.2.1, Nat.le_trans this.2.2 ?_⟩
  have := Nat.mul_le_mul_right (17 + 1) hl
  omega
theorem sign_fit {d : Draft} (h : d.Lib) {r : Row3} (hr : r ∈ d.rows) : okT r.sign ∧ 10 ∉ r.sign ∧ r.sign.length ≤ 8 := by
  have wr := h.wf.rw r hr
  refine ⟨wr.s.1, ?_, wr.s.2⟩
  rcases h.rs r hr with ⟨e, _⟩ | ⟨e, _⟩
  · exact (sign_sp _ (List.mem_append.mpr e)).2.1
  · exact (word_sp e).2
theorem chs_fit {d : Draft} (h : d.Lib) : ∀ ch ∈ chs d ++ [d.parts.reverse], (∀ c ∈ ch, okT c ∧ 10 ∉ c ∧ c.length ≤ 17) ∧ ch.length ≤ 6 := by
  have pf : ∀ p ∈ d.parts, okT p ∧ 10 ∉ p ∧ p.length ≤ 9 := fun p hp => field_fit (h.pf p hp)
  have up : ∀ {x : Wd}, okT x ∧ 10 ∉ x ∧ x.length ≤ 9 → okT x ∧ 10 ∉ x ∧ x.length ≤ 17 := fun z => ⟨z.1, z.2.1, Nat.le_trans z.2.2 (by decide)⟩
  have hf := pf _ (head_mem h.p0)
  have hpl := h.pl
  have hkl := h.kl
  intro ch hch
  unfold chs at hch
  generalize d.parts.headD [] = f at hch hf
  simp only [List.cons_append, List.nil_append, List.mem_cons, List.not_mem_nil, or_false] at hch
  rcases hch with rfl | rfl | rfl | rfl | rfl | rfl | rfl
  · refine ⟨fun c hc => ?_, by simp⟩
    have : c = f := by simpa using hc
    rw [this]; exact up hf
  · refine ⟨fun c hc => up (pf c (by simpa using hc)), by simp; omega⟩
  · exact ⟨fun c hc => (by cases hc), by simp⟩
  · refine ⟨fun c hc => ?_, by simp⟩
    rw [List.mem_singleton.mp hc]
    exact Fit.app hf (y := q8) (m := 8) ⟨by unfold okT; decide, by decide, by decide⟩
  · refine ⟨fun c hc => ?_, by simp; omega⟩
    obtain ⟨q, hq, rfl⟩ := List.mem_map.mp (List.mem_of_mem_take hc)
    exact up (field_fit (keep_src h hq).1)
  · refine ⟨fun c hc => ?_, by simp⟩
    simp only [List.mem_cons, List.not_mem_nil, or_false] at hc
    rcases hc with rfl | rfl
    · exact up hf
    · exact ⟨by unfold okT; decide, by decide, by decide⟩
  · exact ⟨fun c hc => up (pf c (by simpa using hc)), by simp; omega⟩
theorem wrongs_fit {d : Draft} (h : d.Lib) {k : Nat} {ws : List Wd} (hW : Wrongs d k ws) : ∀ w ∈ ws, Fit w := by
  intro w hw
  have ln : ∀ l ∈ d.lines, 10 ∉ l := by rw [Draft.lines_eq]; exact line_nl h d.rows fun q hq => ⟨h.rs q hq, Lib_nl h q hq⟩
  cases hW with
  | name =>
    have hnm := name_fit h
    have lf := Fit.app (x := wLibrary ++ [32]) (n := 8) ⟨by unfold okT; decide, by decide, by decide⟩ hnm
    rcases List.mem_append.mp hw with hw | hw
    · exact common_fit lf.1 lf.2.1 (by omega) w hw
    · obtain ⟨x, hx, rfl⟩ := List.mem_map.mp hw
      exact (by
        have : ∀ x ∈ name0, okT (wLibrary ++ [32] ++ x) ∧ 10 ∉ wLibrary ++ [32] ++ x ∧ (wLibrary ++ [32] ++ x).length ≤ 300 := by unfold okT; decide +kernel
        exact ⟨(this x hx).1, (this x hx).2.1, (this x hx).2.2⟩)
  | needs i p hi =>
    have hpf := h.pf p (List.mem_of_getElem? hi)
    rcases List.mem_append.mp hw with hw | hw
    · have z := fitN (field_fit hpf)
      exact common_fit z.1 z.2.1 (by omega) w hw
    · obtain ⟨x, hx, rfl⟩ := List.mem_map.mp hw
      exact fitOf (fitN (wrongF_fit h (fun q hq => h.pf q (List.mem_of_mem_take hq)) (fun q hq => by cases hq) (lines_needs (by have := (List.getElem?_eq_some_iff.mp hi).1; omega)) x hx)) (by decide)
  | keeps i q hi =>
    obtain ⟨f1, f2⟩ := keep_src h (List.mem_of_getElem? hi)
    rcases List.mem_append.mp hw with hw | hw
    · rcases List.mem_append.mp hw with hw | hw
      · have z := fitK (field_fit f1) (field_fit f2)
        exact common_fit z.1 z.2.1 (by omega) w hw
      · obtain ⟨x, hx, rfl⟩ := List.mem_map.mp hw
        exact fitOf (fitK (wrongF_fit h h.pf (fun q hq => keep_src h (List.mem_of_mem_take hq)) (lines_keeps (by have := (List.getElem?_eq_some_iff.mp hi).1; omega)) x hx) (field_fit f2)) (by decide)
    · obtain ⟨y, hy, rfl⟩ := List.mem_map.mp hw
      refine fitOf (n := 40) (fitK (n := 20) (field_fit f1) ?_) (by decide)
      simp only [List.mem_cons, List.not_mem_nil, or_false] at hy
      have up : ∀ {x : Wd}, okT x ∧ 10 ∉ x ∧ x.length ≤ 9 → okT x ∧ 10 ∉ x ∧ x.length ≤ 20 := fun z => ⟨z.1, z.2.1, Nat.le_trans z.2.2 (by decide)⟩
      rcases hy with rfl | rfl | rfl | rfl
      · exact up (field_fit f1)
      · exact ⟨okT_nil, by simp, by simp⟩
      · exact up (name_fit h)
      · have z := Fit.app (field_fit f2) (y := q8) (m := 8) ⟨by unfold okT; decide, by decide, by decide⟩
        exact ⟨z.1, z.2.1, Nat.le_trans z.2.2 (by decide)⟩
  | hook x hx =>
    have hxs : okT x ∧ 10 ∉ x ∧ x.length ≤ 9 := by
      rcases h.hk x hx with hx | hx
      · exact (by unfold okT; decide : ∀ w ∈ hooks, okT w ∧ 10 ∉ w ∧ w.length ≤ 9) x hx
      · rw [hx]; unfold okT; decide
    rcases List.mem_append.mp hw with hw | hw
    · have z := Fit.app (x := wHook ++ [32]) (n := 5) ⟨by unfold okT; decide, by decide, by decide⟩ hxs
      exact common_fit z.1 z.2.1 (Nat.le_trans z.2.2 (by decide)) w hw
    · obtain ⟨y, hy, rfl⟩ := List.mem_map.mp hw
      have : ∀ x ∈ hookBad, okT (lineH x) ∧ 10 ∉ lineH x ∧ (lineH x).length ≤ 300 := by unfold okT; decide +kernel
      exact ⟨(this y hy).1, (this y hy).2.1, (this y hy).2.2⟩
  | row i r hi =>
    have hrm := List.mem_of_getElem? hi
    have wr := h.wf.rw r hrm
    have bf := begin_fit h hrm
    have b2 := Fit.app bf (y := [32] ++ wBy ++ [32]) (m := 4) ⟨by unfold okT; decide, by decide, by decide⟩
    rcases List.mem_append.mp hw with hw | hw
    · have := row_line_len wr
      exact common_fit (row_okT wr.s.1 (fun w hw => (wr.c w hw).1) wr.m.1) (ln _ (by rw [Draft.lines_eq]; exact List.mem_append_right _ (List.mem_map.mpr ⟨r, hrm, rfl⟩))) (by omega) w hw
    · unfold wrongOps at hw
      rcases List.mem_append.mp hw with hw | hw
      · rcases List.mem_append.mp hw with hw | hw
        · rcases List.mem_append.mp hw with hw | hw
          · obtain ⟨x, hx, rfl⟩ := List.mem_map.mp hw
            have z := Fit.app b2 (mks_fit x (List.mem_filter.mp hx).1)
            rw [show beginL r.sign r.changed ++ [32] ++ wBy ++ [32] ++ x = beginL r.sign r.changed ++ ([32] ++ wBy ++ [32]) ++ x by simp]
            exact fitOf z (by decide)
          · simp only [List.mem_cons, List.not_mem_nil, or_false] at hw
            rcases hw with rfl | rfl
            · exact fitOf bf (by decide)
            · have z := Fit.app (Fit.app b2 (y := wBy ++ [32]) (m := 3) ⟨by unfold okT; decide, by decide, by decide⟩) (mk2_fit r.maker (mkFor_mk2 (h.rm r hrm)))
              rw [show beginL r.sign r.changed ++ [32] ++ wBy ++ [32] ++ wBy ++ [32] ++ r.maker = beginL r.sign r.changed ++ ([32] ++ wBy ++ [32]) ++ (wBy ++ [32]) ++ r.maker by simp]
              exact fitOf z (by decide)
        · obtain ⟨x, hx, rfl⟩ := List.mem_map.mp hw
          exact fitOf (odd_fit x hx) (by decide)
      · split at hw
        · cases hw
        · rcases List.mem_append.mp hw with hw | hw
          · obtain ⟨ch, hch, rfl⟩ := List.mem_map.mp hw
            obtain ⟨z1, z2⟩ := chs_fit h ch (List.mem_append_left _ hch)
            exact lineC_fit (sign_fit h hrm) z1 z2
          · split at hw
            · rw [List.mem_singleton.mp hw, lineC_rev (by simpa using h.p0)]
              obtain ⟨z1, z2⟩ := chs_fit h d.parts.reverse (by simp)
              exact lineC_fit (sign_fit h hrm) z1 z2
            · cases hw
/-- what the law asks of a spoilt text -/
theorem spoilt {d : Draft} (h : d.Lib) {L : List Wd} {k : Nat} {ws : List Wd} {w : Wd} (hW : Wrongs d k ws) (hw : w ∈ ws) (hk : L[k]? = some w) (hL : ∀ l ∈ L, 10 ∉ l) (ht : L.take k = d.lines.take k) (hkl : k ≤ d.lines.length) : readL (TL.joinL [10] L) = .error k :=
  read_bad h hL ht hk (wrongs_bad h hW w hw) hkl
end Lb

namespace Lb
open PySem L2 Hk
theorem zt_0 : Str.ofString "call" = tx (wCall) := by decide +kernel
theorem zt_1 : Str.ofString "own" = tx ([111, 119, 110]) := by decide +kernel
theorem zt_2 : Str.ofString "copy common" = tx (common wCopy) := by decide +kernel
theorem zt_3 : Str.ofString "renew common" = tx (common wRenew) := by decide +kernel
theorem zt_4 : Str.ofString "bare other" = tx (other wBare) := by decide +kernel
theorem zt_5 : Str.ofString "named own" = tx (own wNamed) := by decide +kernel
theorem zt_6 : Str.ofString "hook own" = tx (own wHook) := by decide +kernel
theorem zt_7 : Str.ofString "Named" = tx ([78, 97, 109, 101, 100]) := by decide +kernel
theorem zt_8 : Str.ofString "call both" = tx (wCall ++ [32, 98, 111, 116, 104]) := by decide +kernel
theorem zt_9 : Str.ofString "**" = tx ([42, 42]) := by decide +kernel
theorem zt_10 : Str.ofString "/" = tx ([47]) := by decide +kernel
theorem zt_11 : Str.ofString "~" = tx ([126]) := by decide +kernel
theorem zt_12 : Str.ofString "minus" = tx ([109, 105, 110, 117, 115]) := by decide +kernel
theorem zt_13 : Str.ofString "++" = tx ([43, 43]) := by decide +kernel
theorem zt_14 : Str.ofString "make neg" = tx (wMake ++ [32, 110, 101, 103]) := by decide +kernel
theorem zt_15 : Str.ofString "make Zero" = tx (wMake ++ [32, 90, 101, 114, 111]) := by decide +kernel
theorem zt_16 : Str.ofString "make abcdefghi" = tx (wMake ++ [32, 97, 98, 99, 100, 101, 102, 103, 104, 105]) := by decide +kernel
theorem zt_17 : Str.ofString "make a b" = tx (wMake ++ [32, 97, 32, 98]) := by decide +kernel
theorem zt_18 : Str.ofString "make a1" = tx (wMake ++ [32, 97, 49]) := by decide +kernel
theorem zt_19 : Str.ofString "make a_b" = tx (wMake ++ [32, 97, 95, 98]) := by decide +kernel
theorem zt_20 : Str.ofString "make zeroX" = tx (wMake ++ [32, 122, 101, 114, 111, 88]) := by decide +kernel
theorem zt_21 : Str.ofString "make 1" = tx (wMake ++ [32, 49]) := by decide +kernel
theorem zt_22 : Str.ofString " by by " = tx ([32, 98, 121, 32, 98, 121, 32]) := by decide +kernel
theorem zt_23 : Str.ofString " by named" = tx (wNamedB) := by decide +kernel
theorem zt_24 : Str.ofString "qqqqqqqq" = tx (q8) := by decide +kernel
theorem zt_25 : Str.ofString "by named" = tx ([98, 121, 32, 110, 97, 109, 101, 100]) := by decide +kernel
theorem zt_26 : Str.ofString "  " = tx ([32, 32]) := by decide +kernel
theorem zt_27 : Str.ofString " x" = tx ([32, 120]) := by decide +kernel
theorem zt_28 : Str.ofString "a" = tx ([97]) := by decide +kernel
theorem zt_29 : Str.ofString "AB" = tx ([65, 66]) := by decide +kernel
theorem zt_30 : Str.ofString "A1" = tx ([65, 49]) := by decide +kernel
theorem zt_31 : Str.ofString "Abcdefghi" = tx ([65, 98, 99, 100, 101, 102, 103, 104, 105]) := by decide +kernel
theorem zt_32 : Str.ofString "Ab_c" = tx ([65, 98, 95, 99]) := by decide +kernel
theorem zt_33 : Str.ofString "1" = tx ([49]) := by decide +kernel
theorem zt_34 : Str.ofString "aA" = tx ([97, 65]) := by decide +kernel
theorem zt_35 : Str.ofString "Call" = tx ([67, 97, 108, 108]) := by decide +kernel
theorem zt_36 : Str.ofString "bare own" = tx (own wBare) := by decide +kernel
theorem zt_37 : Str.ofString "new" = tx ([110, 101, 119]) := by decide +kernel
end Lb

namespace Lb
open PySem L2 Hk
theorem cutW_to (ws : List Wd) (n : Nat) : cutV (ws.map wd) none (some (n : Int)) = (ws.take n).map wd := by
  unfold cutV
  rw [HT.sIx_none, HT.sIx_nat, List.length_map, Nat.sub_zero]
  show ((ws.map wd).drop 0).take (min n ws.length) = _
  rw [List.drop_zero, ← List.map_take]
  rw [← List.take_eq_take_min]
theorem cutW_last (ws : List Wd) : cutV (ws.map wd) none (some (-1)) = ws.dropLast.map wd := by
  unfold cutV
  have e : HT.sIx (ws.map wd).length ((ws.map wd).length) (some (-1)) = ws.length - 1 := by
    unfold HT.sIx
    simp only
    rw [if_pos (by decide), List.length_map]
    omega
  rw [e, HT.sIx_none, Nat.sub_zero]
  show ((ws.map wd).drop 0).take (ws.length - 1) = _
  rw [List.drop_zero, ← List.map_take, List.dropLast_eq_take]
section
variable {K : PySem.W.Frag} {F H : Hp} {σ : L2.St} {vs : List Nat} {g : TG} {tt : TT} {te : TE} {Q : VK}
/-- over a list of texts -/
theorem lcTx {l : Addr} {ws : List Wd} (f : Wd → Bool) (v : Wd → Wd) (fh : Same F H) (hx : SqL K F l (ws.map wd)) (hz : ws.length ≤ 1000)
    (turn : ∀ w F1 H1, w ∈ ws → Grow [] F H F1 H1 → ∀ (Done : Hp → Prop) (Kept : VK), (∀ F2 H2, Grow [] F1 H1 F2 H2 → f w = false → Done H2) →
      (∀ F2 H2, Grow [] F1 H1 F2 H2 → f w = true → Kept (.str (tx (v w))) H2) →
      g (.str (tx w)) (wipe σ vs) H1 fun σ2 H2 => wipe σ2 vs = wipe σ vs ∧ tt σ2 H2 fun b H3 => if b = true then te σ2 H3 Kept else Done H3)
    (q : ∀ F' H' D, Grow [] F H F' H' → H D = none → F' D = some (.lst (((ws.filter f).map v).map wd)) → Q (.ref D) H') : LcK (Itl K l) g tt te vs σ H Q := by
  refine lcPL (fun i F' acc => acc = (((ws.take i).filter f).map v).map wd) fh hx (by rw [List.length_map]; omega) rfl (fun i F' acc h => ?_) (fun i F1 F2 acc s h => h) (fun i x F1 H1 acc hi hx' g1 a1 Done Kept hdn hk => ?_) (fun F' H' D acc g' n h a' => ?_)
  · rw [h, List.length_map, List.length_map]
    have h1 := List.length_filter_le f (ws.take i)
    have h2 : (ws.take i).length ≤ i := by rw [List.length_take]; omega
    omega
  · rw [List.length_map] at hi
    rw [List.getElem?_map, List.getElem?_eq_getElem hi] at hx'
    obtain rfl := Option.some.inj hx'
    refine turn ws[i] F1 H1 (List.getElem_mem hi) g1 Done Kept (fun F2 H2 g2 hf => ?_) (fun F2 H2 g2 hf => ?_)
    · refine hdn F2 H2 g2 ?_
      rw [a1, filter_take_succ f (List.getElem?_eq_getElem hi), hf]
      simp
    · refine hk F2 H2 _ g2 ?_
      rw [a1, filter_take_succ f (List.getElem?_eq_getElem hi), hf]
      simp [wd]
  · rw [List.length_map, List.take_length] at a'
    subst a'
    have fD := fh.free n
    exact q (upd F' D (.lst (((ws.filter f).map v).map wd))) H' D (g'.frz h.h h.f n) n upd_same
theorem words_head (l : Wd) : ∃ x r, wordsL l = x :: r := by
  cases h : wordsL l with
  | nil => exact absurd h (wordsL_ne l)
  | cons x r => exact ⟨x, r, rfl⟩
end
def WO (k : Nat) (ls : List Wd) : Prop := ∀ l ∈ ls, okT l ∧ l.length ≤ k
theorem bf_tx : Str.ofString "X" = tx [88] ∧ Str.ofString "aB" = tx [97, 66] ∧ Str.ofString "a1" = tx [97, 49] ∧ Str.ofString "a_b" = tx [97, 95, 98] ∧ Str.ofString "abcdefghi" = tx [97, 98, 99, 100, 101, 102, 103, 104, 105] ∧ Str.ofString "name" = tx [110, 97, 109, 101] ∧ Str.ofString "to" = tx [116, 111] ∧ Str.ofString "world" = tx [119, 111, 114, 108, 100] := by decide +kernel
local macro_rules | `(tactic| array_mem_dec) => `(tactic| with_reducible first
  | assumption | exact upd_same
  | (apply upd_new; assumption; array_mem_dec)
  | (apply upd_old; tlg_ne; array_mem_dec)
  | (apply same_at; assumption; array_mem_dec))
local macro_rules | `(tactic| tlg_ne) => `(tactic| with_reducible first
  | assumption | (apply Ne.symm; assumption)
  | (apply ne_new; assumption; array_mem_dec) | (apply ne_new'; assumption; array_mem_dec)
  | (apply ne_of; assumption; assumption; (with_unfolding_all (intro z; cases z; done))))
local macro_rules | `(tactic| decreasing_trivial_pre_omega) => `(tactic| with_reducible first
  | assumption | (apply sqL_of; array_mem_dec) | (apply sqT_of; array_mem_dec)
  | (apply Same.seq; assumption; decreasing_trivial_pre_omega) | (apply sqT_same; assumption; decreasing_trivial_pre_omega)
  | (apply sqL_new; assumption; decreasing_trivial_pre_omega) | (apply sqL_upd; tlg_ne; decreasing_trivial_pre_omega))
local macro_rules | `(tactic| kpt_turns) => `(tactic| with_reducible first
  | assumption | exact Same.refl _ | (apply same_ext; kpt_turns; assumption) | (apply same_mut; kpt_turns; keq_hits) | (apply same_step; assumption; kpt_turns))
local macro_rules | `(tactic| keq_hits) => `(tactic| with_reducible first | assumption | (apply same_none; assumption; keq_hits))
local macro_rules | `(tactic| sizeOf_list_dec) => `(tactic| first | (with_reducible assumption) | (with_reducible_and_instances omega) | (with_unfolding_all decide))
local macro_rules | `(tactic| array_get_dec) => `(tactic| first | (with_reducible assumption) | (apply sz_of; (with_unfolding_all simp); done) | (apply sz_of; omega) | (apply sz_lt; (with_unfolding_all simp); done) | (apply sz_lt; omega))
local macro_rules | `(tactic| keq_rows) => `(tactic| with_reducible first
  | apply rd_asgN | apply rd_seq | apply rd_parA | apply rd_par3A | apply rd_par2 | apply rd_par3 | apply rd_m1 | apply rd_isStr | apply rd_cval | apply rd_asg | apply rd_gname | apply rd_op | (show tVar _ _ _ _; refine rd_var (by with_unfolding_all rfl) ?_) | apply rd_c | apply rd_I0
  | apply rd_cons | apply rd_nil | apply rd_cb | apply rd_test | apply rd_bl | apply rd_fld | apply rd_drop | apply rd_ret | apply rd_retN | apply rd_next
  | apply rd_ifS | apply rd_un | apply rd_B | apply rd_and | apply rd_or | apply rd_not | apply rd_andV | apply rd_orV | apply rd_notV | apply rd_if
  | apply rd_int | apply rd_abs | apply rd_max | apply rd_min | apply rd_strS | apply rd_U
  | apply rd_eqTx | apply rd_neTx | apply rd_inTx | apply rd_notInTx | apply rd_fmt | (show FmtK (.str (tx _)) _ _; refine rd_fmtT (by omega) ?_) | apply rd_jsC | apply rd_jsN | (show JsK _ (tx _) _ (.str (tx _)) _ _; refine rd_JsK (by first | omega | (simp; done) | (simp; omega)) ?_) | (show rAddStr (.str (tx _)) (.str (tx _)) _ _; refine rd_addT (by first | omega | (simp; done) | (simp; omega)) ?_) | (show rLenStr [.str (tx _)] _ _; refine rd_lenTx (by omega) ?_)
  | (show rEq _ _ _ _; refine rd_eq (by with_unfolding_all rfl) ?_) | (show rNe _ _ _ _; refine rd_ne (by with_unfolding_all rfl) ?_) | apply rd_isNone | apply rd_notNone
  | (show rIxL _ _ _ _ _; refine rd_ixL (by decreasing_trivial_pre_omega) (by with_unfolding_all rfl) ?_) | (show rIxT _ _ _ _ _; refine rd_ixT (by decreasing_trivial_pre_omega) (by with_unfolding_all rfl) ?_)
  | (show rLenSeq _ _ _ _; refine rd_lenL (by decreasing_trivial_pre_omega) ?_) | (show rLenSeq _ _ _ _; refine rd_lenT (by decreasing_trivial_pre_omega) ?_)
  | (show rI _ _ _ _ _ _; refine rd_mod (by sizeOf_list_dec) ?_) | (show rI _ _ _ _ _ _; refine rd_div (by sizeOf_list_dec) (by sizeOf_list_dec) ?_) | (show rI _ _ _ _ _ _; refine rd_mulR (by sizeOf_list_dec) (by sizeOf_list_dec) ?_) | (show rI _ _ _ _ _ _; refine rd_mulL (by sizeOf_list_dec) (by sizeOf_list_dec) ?_) | (show rI _ _ _ _ _ _; refine rd_pow (by sizeOf_list_dec) ?_)
  | (show rSetL _ _ _ _ _; refine rd_setL (by array_mem_dec) (by with_unfolding_all rfl) ?_)
  | apply rd_inSign | apply rd_notInSign | apply rd_tupK | apply rd_lstK | apply rd_sl | apply rd_noPart | apply rd_part | apply rd_isInt
  | apply rd_gsub | apply rd_gcons | apply rd_gnil | apply rd_call | apply rd_meth | apply rd_make | apply rd_smeth | apply rd_isC | apply rd_smethK | apply rd_cmeth | apply rd_cmethK
  | apply rd_bm | apply rd_bm0 | (show BmK _ _ _ _ _ _ _ _; refine rd_bmL (by array_mem_dec) ?_) | (show Bm0K _ _ _ _ _ _; refine rd_bm0L (by array_mem_dec) ?_) | apply rd_sfld | apply rd_aug | apply rd_rAdd | apply rd_brk | apply rd_cont
  | apply rd_for | apply rd_iList | (show IList _ _ _ _; refine rd_IList (by decreasing_trivial_pre_omega) ?_) | apply rd_iTup | (show ITup _ _ _ _; refine rd_ITup (by decreasing_trivial_pre_omega) ?_) | apply rd_iEnum | (show IEnum _ _ _ _; refine rd_IEnum (by decreasing_trivial_pre_omega) ?_) | apply rd_iRng1 | (show IRng1 _ _ _; refine rd_IRng1 (by sizeOf_list_dec) (by sizeOf_list_dec) ?_)
  | (show rLenStr _ _ _; refine rd_lenS (by array_get_dec) ?_) | (show rAddStr _ _ _ _; refine rd_addS (by array_get_dec) ?_) | (show rSlS _ _ _ _ _; refine rd_slS (by array_get_dec) ?_) | apply rd_lc | apply rd_yes | (show gTup _ _ _ _ _ _ _; refine rd_gtup (by decreasing_trivial_pre_omega) (by with_unfolding_all rfl) ?_) | (show tMakeL _ _ _ _ _ _ _ _; refine rd_makeL (by with_unfolding_all rfl) ?_))
local macro_rules | `(tactic| kas_types) => `(tactic| with_reducible first | apply rd_isi_int_int | apply rd_isi_int_bool | apply rd_isi_int_str | apply rd_isi_int_list | apply rd_isi_int_tuple | apply rd_isi_bool_int | apply rd_isi_bool_bool | apply rd_isi_bool_str | apply rd_isi_bool_list | apply rd_isi_bool_tuple | apply rd_isi_str_int | apply rd_isi_str_bool | apply rd_isi_str_str | apply rd_isi_str_list | apply rd_isi_str_tuple | (show rIsi _ _ _ _; refine rd_isi_list_int (by array_mem_dec) ?_) | (show rIsi _ _ _ _; refine rd_isi_list_bool (by array_mem_dec) ?_) | (show rIsi _ _ _ _; refine rd_isi_list_str (by array_mem_dec) ?_) | (show rIsi _ _ _ _; refine rd_isi_list_list (by array_mem_dec) ?_) | (show rIsi _ _ _ _; refine rd_isi_list_tuple (by array_mem_dec) ?_) | (show rIsi _ _ _ _; refine rd_isi_tuple_int (by array_mem_dec) ?_) | (show rIsi _ _ _ _; refine rd_isi_tuple_bool (by array_mem_dec) ?_) | (show rIsi _ _ _ _; refine rd_isi_tuple_str (by array_mem_dec) ?_) | (show rIsi _ _ _ _; refine rd_isi_tuple_list (by array_mem_dec) ?_) | (show rIsi _ _ _ _; refine rd_isi_tuple_tuple (by array_mem_dec) ?_) | apply rd_isi_NoneType_int | apply rd_isi_NoneType_bool | apply rd_isi_NoneType_str | apply rd_isi_NoneType_list | apply rd_isi_NoneType_tuple)
local macro_rules | `(tactic| lcg_src) => `(tactic| repeat keq_rows)

local macro_rules | `(tactic| lcg_sub) => `(tactic| with_reducible first | apply rd_chain | apply rd_revL)
local macro_rules | `(tactic| lcg_off) => `(tactic| repeat (first | keq_rows | lcg_sub))
section
variable {P : Program} {w : World} {K : PySem.W.Frag} {mg : Str → Option Value} {base : Heap} {a : Ad}
def sp_law_wrong_fields (K : PySem.W.Frag) : Sp := fun vs H Q _ => ∃ (F : Hp) (L pl kl rl ll : Addr) (nm : Wd) (hv : V) (ls : List Wd) (k : Nat), vs = [.ref L, .ref ll, .int (k : Nat)] ∧ Same F H ∧ F L = some (.lst [.str (tx nm), .ref pl, .ref kl, hv, .ref rl]) ∧ F ll = some (.lst (ls.map wd)) ∧ ls.length ≤ 100 ∧ WO 200 ls ∧
  (∀ l ∈ ls, (wordsL l).getD 0 [] ∈ [wNeeds, wKeeps] → 2 ≤ (wordsL l).length) ∧
  ∀ F' H' p, Grow [] F H F' H' → F' p = some (.lst ((badF ++ [nm] ++ knownL (ls.take k)).map wd)) → Q (.ref p) H'
theorem ok_law_wrong_fields (T : Txt K mg a) : FnOk P w K mg base CX0 1 a.f_law_wrong_fields a.fd_law_wrong_fields ["_law_lib", "_law_lines_here", "_law_at_here"]  (sp_law_wrong_fields K) := by
  refine T.F_law_wrong_fields.ok sc_law_wrong_fields (fun vs H Q E h => ?_) (fun cdv A outer s H vs Q E hr h => ?_)
  · obtain ⟨_, _, _, _, _, _, _, _, _, _, rfl, _⟩ := h
    rfl
  · obtain ⟨F, L, pl, kl, rl, ll, nm, hv, ls, kk, rfl, fh, hL, hll, hln, hwo, hw2, k⟩ := h
    obtain ⟨t1, t2, t3, t4, t5, t6, t7, t8⟩ := bf_tx
    refine ⟨_, ((pss_cons (ps_setLc (i := 3) (own := [("_law_line", 4)]) (g := gName 4) rfl sc_law_wrong_fields.nd rfl rfl (sw_true rfl rfl rfl (by decide +kernel)) (pi_list (pe_slice sl_list (pv 1) po_none (po_some (pv 2)))) (blkOk_by (own := [("_law_line", 4)]) (N := ["_law_lib", "_law_lines_here", "_law_at_here", "_law_known", "_law_line"]) (sc := defScope s_law_wrong_fields) (by decide +kernel)) (fun _ _ _ _ _ => (pg_name (i := 4) sc_law_wrong_fields.nd rfl (Or.inl rfl))) (fun _ _ _ _ _ => (pts_one (pt_cmpR (op_inSeqK (K := K)) (pe_ix (ix_listK (K := K)) (pe_splitR (pv 4) pe_str) pe_int (fun _ _ => rfl)) (pe_lst (pa_cons pe_str (pa_cons pe_str pa_nil))) (by rfl)))) (fun _ _ _ _ _ => (pe_ix (ix_listK (K := K)) (pe_splitR (pv 4) pe_str) pe_int (fun _ _ => rfl))))
 (pss_one (ps_ret (pe_op op_cat (pe_lst (pa_cons pe_str (pa_cons pe_str (pa_cons pe_str (pa_cons pe_str (pa_cons pe_str (pa_cons pe_str (pa_cons pe_str (pa_cons pe_str (pa_cons pe_str (pa_cons pe_str (pa_cons pe_str (pa_cons pe_str (pa_cons (pe_ix ix_list (pv 0) pe_int (fun _ _ => rfl)) pa_nil)))))))))))))) (pv 3)))))), ?_⟩
    try simp only [cxK, space_tx, needs_tx, keeps_tx, by_tx, changes_tx, of_tx, none_tx, t1, t2, t3, t4, t5, t6, t7, t8]
    have hllH := fh _ _ hll
    lcg_off
    refine new_sl fh (sqL_of hllH) fun F1 H1 p1 g1 n1 e1 => ?_
    rw [cutW_to] at e1
    have e1h := g1.fh _ _ e1
    lcg_off
    refine lcTx (fun l => decide ((wordsL l).getD 0 [] ∈ [wNeeds, wKeeps])) (fun l => (wordsL l).getD 1 []) g1.fh (sqL_of e1) (by rw [List.length_take]; omega) (fun wl F2 H2 hwl g2 Done Kept hd hk => ?_) fun F2 H2 D2 g2 n2 e2 => ?_
    · obtain ⟨hok, hlen⟩ := hwo wl (List.mem_of_mem_take hwl)
      obtain ⟨x, r, hxr⟩ := words_head wl
      lcg_off
      refine ⟨rfl, ?_⟩
      lcg_off
      refine new_split g2.fh (by decide) (by omega) fun F3 H3 p3 g3 n3 e3 => ?_
      rw [show TL.spl [32] 0 [] wl = wordsL wl from rfl, hxr] at e3
      have e3h := g3.fh _ _ e3
      lcg_off
      refine rd_ixL (sqL_of e3h) (v := .str (tx x)) (atI_at (i := 0) rfl) ?_
      lcg_off
      refine newL g3.fh fun F4 H4 p4 g4 n4 e4 => ?_
      refine rd_inWL (ws := [wNeeds, wKeeps]) (sqL_of (g4.fh _ _ e4)) ?_
      have gg := g3.trans g4
      by_cases hm : x ∈ [wNeeds, wKeeps]
      · rw [decide_eq_true hm]
        lcg_off
        refine iteT ?_
        lcg_off
        refine new_split gg.fh (by decide) (by omega) fun F5 H5 p5 g5 n5 e5 => ?_
        rw [show TL.spl [32] 0 [] wl = wordsL wl from rfl] at e5
        have h2 := hw2 wl (List.mem_of_mem_take hwl) (by rw [hxr]; exact hm)
        rw [hxr] at h2
        obtain ⟨y, r2, rfl⟩ : ∃ y r2, r = y :: r2 := by
          cases r with
          | nil => simp at h2
          | cons y r2 => exact ⟨y, r2, rfl⟩
        rw [hxr] at e5
        have e5h := g5.fh _ _ e5
        lcg_off
        refine rd_ixL (sqL_of e5h) (v := .str (tx y)) (atI_at (i := 1) rfl) ?_
        have := hk _ _ (gg.trans g5) (by rw [hxr]; exact decide_eq_true hm)
        rw [hxr] at this
        exact this
      · rw [decide_eq_false hm]
        lcg_off
        refine iteF ?_
        exact hd _ _ gg (by rw [hxr]; exact decide_eq_false hm)
    have g12 := g1.trans g2
    have hLH := g12.fh _ _ (g12.ff _ _ hL)
    lcg_off
    refine newL g12.fh fun F3 H3 p3 g3 n3 e3 => ?_
    lcg_off
    refine new_cat g3.fh (g3.fh _ _ e3) (g3.fh _ _ (g3.ff _ _ e2)) (by
      have h1 := List.length_filter_le (fun l => decide ((wordsL l).getD 0 [] ∈ [wNeeds, wKeeps])) (ls.take kk)
      have h2 : (ls.take kk).length ≤ 100 := by rw [List.length_take]; omega
      simp only [List.length_map, List.length_cons, List.length_nil]
      omega) fun F4 H4 p4 g4 n4 e4 => ?_
    refine k F4 H4 p4 ((g12.trans g3).trans g4) ?_
    rw [e4, List.map_append]
    rfl
end
end Lb

set_option maxHeartbeats 16000000
namespace Lb
open PySem L2 Hk
/-- the law's list of a library, frozen -/
structure LibZ (K : PySem.W.Frag) (F : Hp) (L pl kl rl : Addr) (ks rs : List V) (d : Draft) : Prop where
  li : F L = some (.lst [.str (tx d.name), .ref pl, .ref kl, hookV d.hook, .ref rl])
  pa : F pl = some (.lst (d.parts.map wd))
  ke : F kl = some (.lst ks)
  kd : DpAll K F ks (d.keeping.map keepD)
  ro : F rl = some (.lst rs)
  rd : DpAll K F rs (d.rows.map prowD)
  lb : d.Lib
theorem LibZ.mono {K : PySem.W.Frag} {F F' : Hp} {L pl kl rl : Addr} {ks rs : List V} {d : Draft} (h : LibZ K F L pl kl rl ks rs d) (s : Same F F') : LibZ K F' L pl kl rl ks rs d :=
  ⟨s _ _ h.li, s _ _ h.pa, s _ _ h.ke, h.kd.mono s, s _ _ h.ro, h.rd.mono s, h.lb⟩
theorem joinL_nil : ∀ ws : List Wd, TL.joinL [] ws = ws.flatten
  | [] => rfl
  | [w] => by simp [TL.joinL]
  | w :: v :: r => by
    show w ++ ([] ++ TL.joinL [] (v :: r)) = _
    rw [joinL_nil (v :: r)]
    simp
theorem join_flat (ch : List Wd) : TL.joinL [] (ch.map (· ++ [32])) = ch.flatMap (· ++ [32]) := by
  rw [joinL_nil, List.flatMap_def]
theorem hold_cat {K : PySem.W.Frag} {F H : Hp} {Q : VK} {p r : Addr} {xs ys : List V} (fh : Same F H) (h1 : H p = some (.lst xs)) (h2 : H r = some (.lst ys)) (hz : xs.length + ys.length ≤ 100000) (k : ∀ H' l, Grow [] F H F H' → H l = none → Hold F H' l (.lst (xs ++ ys)) → Q (.ref l) H') : rCat (.ref p) (.ref r) H Q :=
  rd_cat h1 h2 hz fun l n => k _ l ((Grow.refl fh).newO n) n (Hold.new fh n)
theorem take_wd {α : Type} {f0 : List Wd} {xs : List α} {g : α → Wd} {i : Nat} {x : α} (h : xs[i]? = some x) : (f0 ++ (xs.take (i + 1)).map g).map wd = (f0 ++ (xs.take i).map g).map wd ++ [.str (tx (g x))] := by
  rw [List.take_add_one, h]
  simp [wd]
def mkOdd (d : Draft) (r : Row3) : List Wd := (mkFor 2 true ++ oddMk).filter fun m => !decide (m ∈ mkFor (arityN r.sign) d.hook.isSome)
def beg0 (s : Wd) : Wd := if arityN s = 0 then wMake ++ [32] ++ s else s
theorem mkOdd_len (d : Draft) (r : Row3) : (mkOdd d r).length ≤ 30 := by
  unfold mkOdd
  have h := List.length_filter_le (fun m => !decide (m ∈ mkFor (arityN r.sign) d.hook.isSome)) (mkFor 2 true ++ oddMk)
  have h2 := mkFor_len 2 (by simp) true
  have h3 : oddMk.length = 9 := rfl
  rw [List.length_append] at h
  omega
theorem mkOdd_ln {d : Draft} {r : Row3} : ∀ m ∈ mkOdd d r, m.length ≤ 20 := fun m hm => (mks_fit m (List.mem_filter.mp hm).1).2.2
local macro_rules | `(tactic| array_mem_dec) => `(tactic| with_reducible first
  | assumption | exact upd_same
  | (apply upd_new; assumption; array_mem_dec)
  | (apply upd_old; tlg_ne; array_mem_dec)
  | (apply same_at; assumption; array_mem_dec))
local macro_rules | `(tactic| tlg_ne) => `(tactic| with_reducible first
  | assumption | (apply Ne.symm; assumption)
  | (apply ne_new; assumption; array_mem_dec) | (apply ne_new'; assumption; array_mem_dec)
  | (apply ne_of; assumption; assumption; (with_unfolding_all (intro z; cases z; done))))
local macro_rules | `(tactic| decreasing_trivial_pre_omega) => `(tactic| with_reducible first
  | assumption | (apply sqL_of; array_mem_dec) | (apply sqT_of; array_mem_dec)
  | (apply Same.seq; assumption; decreasing_trivial_pre_omega) | (apply sqT_same; assumption; decreasing_trivial_pre_omega)
  | (apply sqL_new; assumption; decreasing_trivial_pre_omega) | (apply sqL_upd; tlg_ne; decreasing_trivial_pre_omega))
local macro_rules | `(tactic| kpt_turns) => `(tactic| with_reducible first
  | assumption | exact Same.refl _ | (apply same_ext; kpt_turns; assumption) | (apply same_mut; kpt_turns; keq_hits) | (apply same_step; assumption; kpt_turns))
local macro_rules | `(tactic| keq_hits) => `(tactic| with_reducible first | assumption | (apply same_none; assumption; keq_hits))
local macro_rules | `(tactic| sizeOf_list_dec) => `(tactic| first | (with_reducible assumption) | (with_reducible_and_instances omega) | (with_unfolding_all decide))
local macro_rules | `(tactic| array_get_dec) => `(tactic| first | (with_reducible assumption) | (apply sz_of; (with_unfolding_all simp); done) | (apply sz_of; omega) | (apply sz_lt; (with_unfolding_all simp); done) | (apply sz_lt; omega))
local macro_rules | `(tactic| keq_rows) => `(tactic| with_reducible first
  | apply rd_asgN | apply rd_seq | apply rd_parA | apply rd_par3A | apply rd_par2 | apply rd_par3 | apply rd_m1 | apply rd_isStr | apply rd_cval | apply rd_asg | apply rd_gname | apply rd_op | (show tVar _ _ _ _; refine rd_var (by with_unfolding_all rfl) ?_) | apply rd_c | apply rd_I0
  | apply rd_cons | apply rd_nil | apply rd_cb | apply rd_test | apply rd_bl | apply rd_fld | apply rd_drop | apply rd_ret | apply rd_retN | apply rd_next
  | apply rd_ifS | apply rd_un | apply rd_B | apply rd_and | apply rd_or | apply rd_not | apply rd_andV | apply rd_orV | apply rd_notV | apply rd_if
  | apply rd_int | apply rd_abs | apply rd_max | apply rd_min | apply rd_strS | apply rd_U
  | apply rd_eqTx | apply rd_neTx | apply rd_inTx | apply rd_notInTx | apply rd_fmt | (show FmtK (.str (tx _)) _ _; refine rd_fmtT (by omega) ?_) | apply rd_jsC | apply rd_jsN | (show JsK _ (tx _) _ (.str (tx _)) _ _; refine rd_JsK (by first | omega | (simp; done) | (simp; omega)) ?_) | (show rAddStr (.str (tx _)) (.str (tx _)) _ _; refine rd_addT (by first | omega | (simp; done) | (simp; omega)) ?_) | (show rLenStr [.str (tx _)] _ _; refine rd_lenTx (by omega) ?_)
  | (show rEq _ _ _ _; refine rd_eq (by with_unfolding_all rfl) ?_) | (show rNe _ _ _ _; refine rd_ne (by with_unfolding_all rfl) ?_) | apply rd_isNone | apply rd_notNone
  | (show rIxL _ _ _ _ _; refine rd_ixL (by decreasing_trivial_pre_omega) (by with_unfolding_all rfl) ?_) | (show rIxT _ _ _ _ _; refine rd_ixT (by decreasing_trivial_pre_omega) (by with_unfolding_all rfl) ?_)
  | (show rLenSeq _ _ _ _; refine rd_lenL (by decreasing_trivial_pre_omega) ?_) | (show rLenSeq _ _ _ _; refine rd_lenT (by decreasing_trivial_pre_omega) ?_)
  | (show rI _ _ _ _ _ _; refine rd_mod (by sizeOf_list_dec) ?_) | (show rI _ _ _ _ _ _; refine rd_div (by sizeOf_list_dec) (by sizeOf_list_dec) ?_) | (show rI _ _ _ _ _ _; refine rd_mulR (by sizeOf_list_dec) (by sizeOf_list_dec) ?_) | (show rI _ _ _ _ _ _; refine rd_mulL (by sizeOf_list_dec) (by sizeOf_list_dec) ?_) | (show rI _ _ _ _ _ _; refine rd_pow (by sizeOf_list_dec) ?_)
  | (show rSetL _ _ _ _ _; refine rd_setL (by array_mem_dec) (by with_unfolding_all rfl) ?_)
  | apply rd_inSign | apply rd_notInSign | apply rd_tupK | apply rd_lstK | apply rd_sl | apply rd_noPart | apply rd_part | apply rd_isInt
  | apply rd_gsub | apply rd_gcons | apply rd_gnil | apply rd_call | apply rd_meth | apply rd_make | apply rd_smeth | apply rd_isC | apply rd_smethK | apply rd_cmeth | apply rd_cmethK
  | apply rd_bm | apply rd_bm0 | (show BmK _ _ _ _ _ _ _ _; refine rd_bmL (by array_mem_dec) ?_) | (show Bm0K _ _ _ _ _ _; refine rd_bm0L (by array_mem_dec) ?_) | apply rd_sfld | apply rd_aug | apply rd_rAdd | apply rd_brk | apply rd_cont
  | apply rd_for | apply rd_iList | (show IList _ _ _ _; refine rd_IList (by decreasing_trivial_pre_omega) ?_) | apply rd_iTup | (show ITup _ _ _ _; refine rd_ITup (by decreasing_trivial_pre_omega) ?_) | apply rd_iEnum | (show IEnum _ _ _ _; refine rd_IEnum (by decreasing_trivial_pre_omega) ?_) | apply rd_iRng1 | (show IRng1 _ _ _; refine rd_IRng1 (by sizeOf_list_dec) (by sizeOf_list_dec) ?_)
  | (show rLenStr _ _ _; refine rd_lenS (by array_get_dec) ?_) | (show rAddStr _ _ _ _; refine rd_addS (by array_get_dec) ?_) | (show rSlS _ _ _ _ _; refine rd_slS (by array_get_dec) ?_) | apply rd_lc | apply rd_yes | (show gTup _ _ _ _ _ _ _; refine rd_gtup (by decreasing_trivial_pre_omega) (by with_unfolding_all rfl) ?_) | (show tMakeL _ _ _ _ _ _ _ _; refine rd_makeL (by with_unfolding_all rfl) ?_))
local macro_rules | `(tactic| kas_types) => `(tactic| with_reducible first | apply rd_isi_int_int | apply rd_isi_int_bool | apply rd_isi_int_str | apply rd_isi_int_list | apply rd_isi_int_tuple | apply rd_isi_bool_int | apply rd_isi_bool_bool | apply rd_isi_bool_str | apply rd_isi_bool_list | apply rd_isi_bool_tuple | apply rd_isi_str_int | apply rd_isi_str_bool | apply rd_isi_str_str | apply rd_isi_str_list | apply rd_isi_str_tuple | (show rIsi _ _ _ _; refine rd_isi_list_int (by array_mem_dec) ?_) | (show rIsi _ _ _ _; refine rd_isi_list_bool (by array_mem_dec) ?_) | (show rIsi _ _ _ _; refine rd_isi_list_str (by array_mem_dec) ?_) | (show rIsi _ _ _ _; refine rd_isi_list_list (by array_mem_dec) ?_) | (show rIsi _ _ _ _; refine rd_isi_list_tuple (by array_mem_dec) ?_) | (show rIsi _ _ _ _; refine rd_isi_tuple_int (by array_mem_dec) ?_) | (show rIsi _ _ _ _; refine rd_isi_tuple_bool (by array_mem_dec) ?_) | (show rIsi _ _ _ _; refine rd_isi_tuple_str (by array_mem_dec) ?_) | (show rIsi _ _ _ _; refine rd_isi_tuple_list (by array_mem_dec) ?_) | (show rIsi _ _ _ _; refine rd_isi_tuple_tuple (by array_mem_dec) ?_) | apply rd_isi_NoneType_int | apply rd_isi_NoneType_bool | apply rd_isi_NoneType_str | apply rd_isi_NoneType_list | apply rd_isi_NoneType_tuple)
local macro_rules | `(tactic| lcg_src) => `(tactic| repeat keq_rows)

local macro_rules | `(tactic| lcg_sub) => `(tactic| with_reducible first | apply rd_chain | apply rd_revL)
local macro_rules | `(tactic| lcg_off) => `(tactic| repeat (first | keq_rows | lcg_sub))
section
variable {P : Program} {w : World} {K : PySem.W.Frag} {mg : Str → Option Value} {base : Heap} {a : Ad}
def sp_law_wrong_operations (K : PySem.W.Frag) : Sp := fun vs H Q _ => ∃ (F : Hp) (L pl kl rl t c : Addr) (ks rs : List V) (d : Draft) (r : Row3), vs = [.ref L, .ref t] ∧ Same F H ∧ LibZ K F L pl kl rl ks rs d ∧ r ∈ d.rows ∧
  SqL K F t [.str (tx r.sign), .ref c, .str (tx r.maker), .int (arityN r.sign : Nat)] ∧ SqL K F c (r.changed.map wd) ∧
  ∀ F' H' p, Grow [] F H F' H' → F' p = some (.lst ((wrongOps d r).map wd)) → Q (.ref p) H'
theorem ok_law_wrong_operations (T : Txt K mg a) : FnOk P w K mg base CX0 2 a.f_law_wrong_operations a.fd_law_wrong_operations ["_law_lib", "_law_row"]  (sp_law_wrong_operations K) := by
  refine T.F_law_wrong_operations.ok sc_law_wrong_operations (fun vs H Q E h => ?_) (fun cdv A outer s H vs Q E hr h => ?_)
  · obtain ⟨_, _, _, _, _, _, _, _, _, _, _, rfl, _⟩ := h
    rfl
  · obtain ⟨F, L, pl, kl, rl, t, c, ks, rs, d, r, rfl, fh, Z, hrm, ht, hc, k⟩ := h
    refine ⟨_, ((pss_cons (ps_asg (pv 1) (pg_unl rfl (pgs_cons (pg_name (i := 2) sc_law_wrong_operations.nd rfl (Or.inl rfl)) (pgs_cons (pg_name (i := 3) sc_law_wrong_operations.nd rfl (Or.inl rfl)) (pgs_cons (pg_name (i := 4) sc_law_wrong_operations.nd rfl (Or.inl rfl)) (pgs_cons (pg_name (i := 5) sc_law_wrong_operations.nd rfl (Or.inr rfl)) pgs_nil))))))
 (Evl.pss_cut (ps_set (i := 6) sc_law_wrong_operations.nd rfl (Or.inr rfl) (pe_ifExp (pt_cmpR op_eq (pv 5) pe_int (nomark _)) (pe_op op_addStr pe_str (pv 2)) (pv 2)))
 (Evl.pss_cut (ps_if (PW.pt (pw_and (pt_cmpR (op_neD hr.units) (pv 3) (pe_lst pa_nil) (nomark _)) (pw_and1 (pt_cmpR op_gt (pv 5) pe_int (nomark _)))))
 (pss_one (ps_set (i := 6) sc_law_wrong_operations.nd rfl (Or.inr rfl) (pe_op op_addStr (pe_op op_addStr (pv 6) pe_str) (pe_joinR (K := K) pe_str (pv 3)))))
 pss_nil)
 (pss_cons (ps_set (i := 7) sc_law_wrong_operations.nd rfl (Or.inl rfl) (pe_lst (pa_cons pe_str (pa_cons pe_str (pa_cons pe_str (pa_cons pe_str (pa_cons pe_str (pa_cons pe_str (pa_cons pe_str (pa_cons pe_str (pa_cons pe_str pa_nil)))))))))))
 (pss_cons (ps_setLc (i := 7) (own := [("_law_one", 8)]) (g := gName 8) rfl sc_law_wrong_operations.nd rfl rfl (sw_true rfl rfl rfl (by decide +kernel)) (pi_list (pe_op op_cat (pe_call (ok_law_makers T) hr rfl T.g_law_makers T.F_law_makers.kp T.b_law_makers .nil pass0 (pa_cons pe_int (pa_cons pe_str pa_nil))) (pv 7))) (blkOk_by (own := [("_law_one", 8)]) (N := ["_law_lib", "_law_row", "_law_sign", "_law_changed", "_law_maker", "_law_arity", "_law_begin", "_law_makers_here", "_law_one", "_law_found", "_law_first", "_law_kept", "_law_pair", "_law_parts", "_law_part"]) (sc := defScope s_law_wrong_operations) (by decide +kernel)) (fun _ _ _ _ _ => (pg_name (i := 8) sc_law_wrong_operations.nd rfl (Or.inl rfl))) (fun _ _ _ _ _ => (pts_one (pt_cmpR (op_notInSeqK (K := K)) (pv 8) (pe_call (ok_law_makers T) hr rfl T.g_law_makers T.F_law_makers.kp T.b_law_makers .nil pass0 (pa_cons (pv 5) (pa_cons (pe_ix (ix_listK (K := K)) (pv 0) pe_int (fun _ _ => rfl)) pa_nil))) (by rfl)))) (fun _ _ _ _ _ => (pv 8)))
 (pss_cons (ps_set (i := 9) sc_law_wrong_operations.nd rfl (Or.inl rfl) (pe_op op_cat (pe_lc (own := [("_law_one", 8)]) (g := gName 8) (tt := tYes) rfl sc_law_wrong_operations.nd (pi_list (pv 7)) (blkOk_by (own := [("_law_one", 8)]) (N := ["_law_lib", "_law_row", "_law_sign", "_law_changed", "_law_maker", "_law_arity", "_law_begin", "_law_makers_here", "_law_one", "_law_found", "_law_first", "_law_kept", "_law_pair", "_law_parts", "_law_part"]) (sc := defScope s_law_wrong_operations) (by decide +kernel)) (fun _ _ _ _ _ => (pg_name (i := 8) sc_law_wrong_operations.nd rfl (Or.inl rfl))) (fun _ _ _ _ _ => pts_nil) (fun _ _ _ _ _ => (pe_op op_addStr (pe_op op_addStr (pv 6) pe_str) (pv 8)))) (pe_lst (pa_cons (pv 6) (pa_cons (pe_op op_addStr (pe_op op_addStr (pv 6) pe_str) (pv 4)) pa_nil)))))
 (pss_cons (ps_for PassesOwn.never rfl (pi_list (pe_lst (pa_cons pe_str (pa_cons pe_str (pa_cons pe_str (pa_cons pe_str (pa_cons pe_str (pa_cons pe_str (pa_cons pe_str (pa_cons pe_str (pa_cons pe_str (pa_cons pe_str (pa_cons pe_str (pa_cons pe_str (pa_cons pe_str (pa_cons pe_str pa_nil)))))))))))))))) (pg_name (i := 8) sc_law_wrong_operations.nd rfl (Or.inl rfl))
 (pss_one (ps_expr (pe_bm PySem.F.plainAttrs_list PySem.F.slot_list_append PySem.F.type_list_append mt_append (pv 9) (pa_cons (pe_op op_addStr (pv 8) pe_str) pa_nil)))))
 (pss_cons (ps_if (pt_cmpR op_gt (pv 5) pe_int (nomark _))
 (pss_cons (ps_par (i := 10) (j := 11) (by rfl) sc_law_wrong_operations.nd rfl rfl (by decide) rfl rfl (pa_cons (pe_ix ix_list (pe_ix ix_list (pv 0) pe_int (fun _ _ => rfl)) pe_int (fun _ _ => rfl)) (pa_cons (pe_lc (own := [("_law_pair", 12)]) (g := gName 12) (tt := tYes) rfl sc_law_wrong_operations.nd (pi_list (pe_ix ix_list (pv 0) pe_int (fun _ _ => rfl))) (blkOk_by (own := [("_law_pair", 12)]) (N := ["_law_lib", "_law_row", "_law_sign", "_law_changed", "_law_maker", "_law_arity", "_law_begin", "_law_makers_here", "_law_one", "_law_found", "_law_first", "_law_kept", "_law_pair", "_law_parts", "_law_part"]) (sc := defScope s_law_wrong_operations) (by decide +kernel)) (fun _ _ _ _ _ => (pg_name (i := 12) sc_law_wrong_operations.nd rfl (Or.inl rfl))) (fun _ _ _ _ _ => pts_nil) (fun _ _ _ _ _ => (pe_ix (ix_tupK (K := K)) (pv 12) pe_int (fun _ _ => rfl)))) pa_nil)) (by rfl))
 (pss_cons (ps_for PassesOwn.never rfl (pi_list (pe_lst (pa_cons (pe_lst (pa_cons (pv 10) (pa_cons (pv 10) pa_nil))) (pa_cons (pe_op op_cat (pe_revL (pe_ix ix_list (pv 0) pe_int (fun _ _ => rfl))) (pe_ix ix_list (pv 0) pe_int (fun _ _ => rfl))) (pa_cons (pe_lst pa_nil) (pa_cons (pe_lst (pa_cons (pe_op op_addStr (pv 10) pe_str) pa_nil)) (pa_cons (pe_slice sl_list (pv 11) po_none (po_some pe_int)) (pa_cons (pe_lst (pa_cons (pv 10) (pa_cons pe_str pa_nil))) pa_nil)))))))) (pg_name (i := 13) sc_law_wrong_operations.nd rfl (Or.inl rfl))
 (pss_one (ps_expr (pe_bm PySem.F.plainAttrs_list PySem.F.slot_list_append PySem.F.type_list_append mt_append (pv 9) (pa_cons (pe_op op_addStr (pe_op op_addStr (pe_op op_addStr (pv 2) pe_str) (pe_joinR (K := K) pe_str (pe_lc (own := [("_law_part", 14)]) (g := gName 14) (tt := tYes) rfl sc_law_wrong_operations.nd (pi_list (pv 13)) (blkOk_by (own := [("_law_part", 14)]) (N := ["_law_lib", "_law_row", "_law_sign", "_law_changed", "_law_maker", "_law_arity", "_law_begin", "_law_makers_here", "_law_one", "_law_found", "_law_first", "_law_kept", "_law_pair", "_law_parts", "_law_part"]) (sc := defScope s_law_wrong_operations) (by decide +kernel)) (fun _ _ _ _ _ => (pg_name (i := 14) sc_law_wrong_operations.nd rfl (Or.inl rfl))) (fun _ _ _ _ _ => pts_nil) (fun _ _ _ _ _ => (pe_op op_addStr (pv 14) pe_str))))) pe_str) pa_nil)))))
 (pss_one (ps_if (pt_cmpR op_gt (pe_callB call_lenSeq (by rfl) T.n_len (by decide +kernel) (pa_cons (pe_ix ix_list (pv 0) pe_int (fun _ _ => rfl)) pa_nil)) pe_int (nomark _))
 (pss_one (ps_expr (pe_bm PySem.F.plainAttrs_list PySem.F.slot_list_append PySem.F.type_list_append mt_append (pv 9) (pa_cons (pe_op op_addStr (pe_op op_addStr (pe_op op_addStr (pv 2) pe_str) (pe_joinR (K := K) pe_str (pe_revL (pe_ix ix_list (pv 0) pe_int (fun _ _ => rfl))))) pe_str) pa_nil))))
 pss_nil))))
 pss_nil)
 (pss_one (ps_ret (pv 9)))))))))))), ?_⟩
    try simp only [cxK, makeS_tx, changesS_tx, byS_tx, space_tx, none_tx, by_tx, make_tx, zt_0, zt_1, zt_2, zt_3, zt_4, zt_5, zt_6, zt_7, zt_8, zt_9, zt_10, zt_11, zt_12, zt_13, zt_14, zt_15, zt_16, zt_17, zt_18, zt_19, zt_20, zt_21, zt_22, zt_23, zt_24, zt_25, zt_26, zt_27, zt_28, zt_29, zt_30, zt_31, zt_32, zt_33, zt_34, zt_35, zt_36, zt_37]
    have wf := Z.lb.wf
    have wr := wf.rw r hrm
    have hsl := wr.s.2
    have hml := wr.m.2
    have hpl := wf.pl
    have bf := begin_fit Z.lb hrm
    have hok := fun w hw => (wr.c w hw).1
    have sgl := wr.s.2
    lcg_off
    refine rd_gunlL (fh.seq ht) (by with_unfolding_all rfl) ?_
    lcg_off
    refine rd_cut (fun σ' H' => H' = H ∧ σ' = [some (.ref L), some (.ref t), some (.str (tx r.sign)), some (.ref c), some (.str (tx r.maker)), some (.int (arityN r.sign : Nat)), some (.str (tx (beg0 r.sign))), none, none, none, none, none, none, none, none]) ?_ ?_
    · lcg_off
      refine ifD (fun c1 => ?_) (fun c1 => ?_)
      · have c1' : arityN r.sign = 0 := by have := V.int.inj c1; omega
        lcg_off
        refine ⟨rfl, ?_⟩
        unfold beg0
        rw [if_pos c1']
        rfl
      · have c1' : arityN r.sign ≠ 0 := fun z => c1 (by rw [z]; rfl)
        lcg_off
        refine ⟨rfl, ?_⟩
        unfold beg0
        rw [if_neg c1']
        rfl
    rintro σ' H' ⟨rfl, rfl⟩
    have hb0 : (beg0 r.sign).length ≤ 13 := by
      unfold beg0
      split
      · simp [wMake]; omega
      · omega
    have hs3 := spaced_le wr.l wr.c
    lcg_off
    refine rd_cut (fun σ' H1 => (∃ F1, Grow [] F H' F1 H1) ∧ σ' = [some (.ref L), some (.ref t), some (.str (tx r.sign)), some (.ref c), some (.str (tx r.maker)), some (.int (arityN r.sign : Nat)), some (.str (tx (beginL r.sign r.changed))), none, none, none, none, none, none, none, none]) ?_ ?_
    · lcg_off
      refine newL fh fun F1 H1 p1 g1 n1 e1 => ?_
      have hc1 := g1.same.seq (fh.seq hc)
      refine rd_neWL (vs := []) hc1 (sqL_of (g1.fh _ _ e1)) hok (fun w hw => by cases hw) ?_
      lcg_off
      by_cases hch : r.changed = []
      · refine ifF (by rw [decide_eq_true hch]; rfl) ?_
        lcg_off
        refine ⟨⟨F1, g1⟩, ?_⟩
        rw [show beginL r.sign r.changed = beg0 r.sign by unfold beginL beg0; rw [if_pos hch]]
      · refine ifT (by rw [decide_eq_false hch]; rfl) ?_
        lcg_off
        refine ifD (fun c1 => ?_) (fun c1 => ?_)
        · have c1' : arityN r.sign ≠ 0 := by omega
          lcg_off
          refine rd_joinW (.inl hc1) (by have := spaced_len wr.l wr.c; show (r.changed.map (·.length)).sum + r.changed.length * 1 ≤ 100000; omega) ?_
          rw [show TL.joinL [32] r.changed = spaced r.changed from rfl]
          lcg_off
          refine ⟨⟨F1, g1⟩, ?_⟩
          rw [show beginL r.sign r.changed = beg0 r.sign ++ [32, 99, 104, 97, 110, 103, 101, 115, 32] ++ spaced r.changed by
            unfold beginL beg0
            rw [if_neg c1', if_neg hch, if_neg c1']
            unfold wChanges
            simp]
          rfl
        · have c1' : arityN r.sign = 0 := by omega
          lcg_off
          refine ⟨⟨F1, g1⟩, ?_⟩
          rw [show beginL r.sign r.changed = beg0 r.sign by unfold beginL beg0; rw [if_pos c1', if_pos c1']]
    rintro σ' H1 ⟨⟨F1, g1⟩, rfl⟩
    lcg_off
    refine newL g1.fh fun F2 H2 p2 g2 n2 e2 => ?_
    lcg_off
    refine ⟨F2, 2, some wCall, rfl, by decide, g2.fh, fun F3 H3 p3 g3 n3 e3 => ?_⟩
    lcg_off
    refine new_cat g3.fh (g3.fh _ _ e3) (g3.fh _ _ (g3.ff _ _ e2)) (by have := mkFor_len 2 (by simp) true; simp; omega) fun F4 H4 p4 g4 n4 e4 => ?_
    have e4' : F4 p4 = some (.lst ((mkFor 2 true ++ oddMk).map wd)) := by rw [e4, List.map_append]; rfl
    have g14 := g1.trans (g2.trans (g3.trans g4))
    have e4H := g4.fh _ _ e4'
    lcg_off
    refine lcTx (fun m => !decide (m ∈ mkFor (arityN r.sign) d.hook.isSome)) id g4.fh (sqL_of e4') (by have := mkFor_len 2 (by simp) true; have : oddMk.length = 9 := rfl; rw [List.length_append]; omega) (fun wl F5 H5 hwl g5 Done Kept hd hk => ?_) fun F5 H5 p5 g5 n5 e5 => ?_
    · have hLH := g5.fh _ _ (g5.ff _ _ (g14.ff _ _ Z.li))
      lcg_off
      refine ⟨rfl, ?_⟩
      lcg_off
      refine ⟨F5, arityN r.sign, d.hook, rfl, arityN_le _, g5.fh, fun F6 H6 p6 g6 n6 e6 => ?_⟩
      lcg_off
      refine rd_notInWL (sqL_of (g6.fh _ _ e6)) ?_
      lcg_off
      by_cases hm : wl ∈ mkFor (arityN r.sign) d.hook.isSome
      · rw [decide_eq_true hm]
        refine iteF ?_
        exact hd _ _ g6 (by rw [decide_eq_true hm]; rfl)
      · rw [decide_eq_false hm]
        refine iteT ?_
        lcg_off
        exact hk _ _ g6 (by rw [decide_eq_false hm]; rfl)
    rw [List.map_id] at e5
    rw [show ((mkFor 2 true ++ oddMk).filter fun m => !decide (m ∈ mkFor (arityN r.sign) d.hook.isSome)) = mkOdd d r from rfl] at e5
    have hmo := mkOdd_len d r
    have g15 := g14.trans g5
    have e5H := g5.fh _ _ e5
    lcg_off
    refine lcTx (fun _ => true) (fun m => beginL r.sign r.changed ++ [32] ++ wBy ++ [32] ++ m) g5.fh (sqL_of e5) (by omega) (fun wl F6 H6 hwl g6 Done Kept hd hk => ?_) fun F6 H6 p6 g6 n6 e6 => ?_
    · have hwl20 := mkOdd_ln wl hwl
      lcg_off
      refine ⟨rfl, ?_⟩
      lcg_off
      refine iteT ?_
      lcg_off
      have := hk _ _ (Grow.refl g6.fh) rfl
      rw [show beginL r.sign r.changed ++ [32] ++ wBy ++ [32] ++ wl = beginL r.sign r.changed ++ [32, 98, 121, 32] ++ wl by unfold wBy; simp] at this
      exact this
    rw [List.filter_eq_self.mpr fun _ _ => rfl] at e6
    have hbl := bf.2.2
    lcg_off
    refine newL g6.fh fun F7 H7 p7 g7 n7 e7 => ?_
    have g17 := g15.trans (g6.trans g7)
    obtain ⟨f0, hf0, hf0l⟩ : ∃ f0 : List Wd, f0 = (mkOdd d r).map (fun m => beginL r.sign r.changed ++ [32] ++ wBy ++ [32] ++ m) ++ [beginL r.sign r.changed, beginL r.sign r.changed ++ [32] ++ wBy ++ [32] ++ wBy ++ [32] ++ r.maker] ∧ f0.length ≤ 40 := ⟨_, rfl, by simp; omega⟩
    lcg_off
    refine hold_cat (K := K) g7.fh (g7.fh _ _ (g7.ff _ _ e6)) (g7.fh _ _ e7) (by simp; omega) fun H8 fl g8 n8 h8 => ?_
    have g18 := g17.trans g8
    have nfl : H' fl = none := g17.free n8
    have h8' : Hold F7 H8 fl (.lst (f0.map wd)) := by
      have : f0.map wd = ((mkOdd d r).map (fun m => beginL r.sign r.changed ++ [32] ++ wBy ++ [32] ++ m)).map wd ++ [.str (tx (beginL r.sign r.changed)), .str (tx (beginL r.sign r.changed ++ [32, 98, 121, 32, 98, 121, 32] ++ r.maker))] := by
        rw [hf0, List.map_append]
        congr 1
        unfold wBy wd
        simp
      rw [this]
      exact h8
    clear h8 e7 e6 e5H e5 e4H e4 e4' e3 e2
    lcg_off
    refine newL g18.fh fun F9 H9 p9 g9 n9 e9 => ?_
    have e9' : F9 p9 = some (.lst (oddOps.map wd)) := e9
    have h9 := h8'.go0 g9
    have e9H := g9.fh _ _ e9'
    lcg_off
    refine fk_list (xs := oddOps.map wd) (fun i σ H10 => ∃ F10, Grow [] F H' F10 H10 ∧ F10 p9 = some (.lst (oddOps.map wd)) ∧ Hold F10 H10 fl (.lst ((f0 ++ (oddOps.take i).map (· ++ wNamedB)).map wd)) ∧ ∃ u8, σ = [some (.ref L), some (.ref t), some (.str (tx r.sign)), some (.ref c), some (.str (tx r.maker)), some (.int (arityN r.sign : Nat)), some (.str (tx (beginL r.sign r.changed))), some (.ref p5), u8, some (.ref fl), none, none, none, none, none])
      ⟨F9, g18.trans g9, e9', by rw [List.take_zero, List.map_nil, List.append_nil]; exact h9, none, rfl⟩ (fun i σ H10 _ ⟨F10, g10, z, _⟩ => sqL_of (g10.fh _ _ z)) ?_ ?_
    · rintro i x σ H10 hx ⟨F10, g10, z10, h10, u8, rfl⟩
      have hi : i < oddOps.length := by have := (List.getElem?_eq_some_iff.mp hx).1; rwa [List.length_map] at this
      rw [List.getElem?_map, List.getElem?_eq_getElem hi] at hx
      obtain rfl := Option.some.inj hx
      have hol := (odd_fit oddOps[i] (List.getElem_mem hi)).2.2
      rw [List.length_append] at hol
      have h14 : oddOps.length = 14 := rfl
      have hh := h10.h
      show gName 8 (.str (tx oddOps[i])) _ _ _
      have hnb : wNamedB.length = 9 := rfl
      lcg_off
      refine rd_append h10.h (sz_lt (by simp; omega)) ?_
      lcg_off
      refine ⟨F10, g10.mut h10.f (.inr nfl), z10, ?_, _, rfl⟩
      rw [take_wd (List.getElem?_eq_getElem hi)]
      exact h10.put
    rintro σ H10 ⟨F10, g10, -, h10, u8, rfl⟩
    rw [List.length_map, List.take_length] at h10
    obtain ⟨f1, hf1, hf1l⟩ : ∃ f1 : List Wd, f1 = f0 ++ oddOps.map (· ++ wNamedB) ∧ f1.length ≤ 60 := ⟨_, rfl, by have h14 : oddOps.length = 14 := rfl; simp; omega⟩
    rw [← hf1] at h10
    clear e9' e9 e9H h9 h8'
    have hLH := g10.fh _ _ (g10.ff _ _ Z.li)
    have hPH := g10.fh _ _ (g10.ff _ _ Z.pa)
    have fin : ∀ (F20 H20 : Hp) (xs : List Wd), Grow [] F H' F20 H20 → Hold F20 H20 fl (.lst (xs.map wd)) → xs = wrongOps d r → Q (.ref fl) H20 := by
      intro F20 H20 xs g20 h20 e
      subst e
      exact k (upd F20 fl (.lst ((wrongOps d r).map wd))) H20 fl (g20.frz h20.h h20.f nfl) upd_same
    lcg_off
    refine ifD (fun c1 => ?_) (fun c1 => ?_)
    · have c1' : arityN r.sign ≠ 0 := by omega
      obtain ⟨p0, pr, hpp⟩ : ∃ p0 pr, d.parts = p0 :: pr := by
        cases h : d.parts with
        | nil => exact absurd h Z.lb.p0
        | cons x y => exact ⟨x, y, rfl⟩
      have hp0l : p0.length ≤ 8 := (wf.pw p0 (by rw [hpp]; simp)).2
      have hksl : ks.length = d.keeping.length := by simpa using Z.kd.length
      have hkl := wf.kl
      have hKH := g10.fh _ _ (g10.ff _ _ Z.ke)
      lcg_off
      refine rd_ixL (sqL_of hPH) (v := .str (tx p0)) (atI_at (i := 0) (by rw [hpp]; rfl)) ?_
      lcg_off
      refine firsts_keep g10.fh hKH ((Z.kd.mono g10.ff).mono g10.fh) (by omega) (fun t q H2 Done Kept ht hk => ?_) fun D11 H11 n11 g11 e11 => ?_
      · lcg_off
        refine ⟨rfl, ?_⟩
        lcg_off
        refine iteT ?_
        lcg_off
        exact hk _ (Same.refl _)
      have h11 := h10.go0 g11
      have g1a := g10.trans g11
      have e11F : upd F10 D11 (.lst ((d.keeping.map (·.1)).map wd)) D11 = some (.lst ((d.keeping.map (·.1)).map wd)) := upd_same
      have d11 : fl ≠ D11 := ne_of_none h10.h n11
      have f11 : F10 D11 = none := g10.fh.free n11
      have g1b := g1a.frz e11 f11 (g10.free n11)
      have h1b : Hold (upd F10 D11 (.lst ((d.keeping.map (·.1)).map wd))) H11 fl (.lst (f1.map wd)) := ⟨upd_oldN d11 h11.f, h11.h⟩
      generalize upd F10 D11 (.lst ((d.keeping.map (·.1)).map wd)) = F11 at e11F g1b h1b
      have hLa := g1b.fh _ _ (g1b.ff _ _ Z.li)
      have hPa := g1b.fh _ _ (g1b.ff _ _ Z.pa)
      lcg_off
      refine newL g1b.fh fun F12 H12 q1 g12 _ e12 => ?_
      have gg2 := g1b.trans g12
      have hLb := gg2.fh _ _ (gg2.ff _ _ Z.li)
      lcg_off
      refine new_rev g12.fh (sqL_of (gg2.fh _ _ (gg2.ff _ _ Z.pa))) fun F13 H13 q2' g13 _ e13 => ?_
      have gg3 := gg2.trans g13
      have hLc := gg3.fh _ _ (gg3.ff _ _ Z.li)
      lcg_off
      refine new_cat g13.fh (g13.fh _ _ e13) (gg3.fh _ _ (gg3.ff _ _ Z.pa)) (by simp; omega) fun F14 H14 q2 g14' _ e14 => ?_
      have gg4 := gg3.trans g14'
      lcg_off
      refine newL gg4.fh fun F15 H15 q3 g15' _ e15 => ?_
      have gg5 := gg4.trans g15'
      have hq8l : q8.length = 8 := rfl
      lcg_off
      refine newL gg5.fh fun F16 H16 q4 g16 _ e16 => ?_
      have gg6 := gg5.trans g16
      have g1116 := g12.trans (g13.trans (g14'.trans (g15'.trans g16)))
      lcg_off
      refine new_sl gg6.fh (sqL_of (gg6.fh _ _ (g1116.ff _ _ e11F))) fun F17 H17 q5 g17' _ e17 => ?_
      rw [show cutV ((d.keeping.map (·.1)).map wd) none (some 1) = ((d.keeping.map (·.1)).take 1).map wd from cutW_to _ 1] at e17
      have gg7 := gg6.trans g17'
      lcg_off
      refine newL gg7.fh fun F18 H18 q6 g18' _ e18 => ?_
      have gg8 := gg7.trans g18'
      lcg_off
      refine newL gg8.fh fun F19 H19 qo g19 _ e19 => ?_
      have gg9 := gg8.trans g19
      have hold19 : Hold F19 H19 fl (.lst (f1.map wd)) := ((h1b.go0 g1116).go0 g17').go0 (g18'.trans g19)
      have s18 := g19.ff
      have s17 := g18'.ff.trans s18
      have s16 := g17'.ff.trans s17
      have s15 := g16.ff.trans s16
      have s14 := g15'.ff.trans s15
      have s13 := g14'.ff.trans s14
      have s12 := g13.ff.trans s13
      have hq : ∀ (i : Nat) (x : V), [V.ref q1, .ref q2, .ref q3, .ref q4, .ref q5, .ref q6][i]? = some x → ∃ q ch, x = .ref q ∧ (chs d)[i]? = some ch ∧ F19 q = some (.lst (ch.map wd)) := by
        have hd0 : d.parts.headD [] = p0 := by rw [hpp]; rfl
        intro i x hx
        unfold chs
        rw [hd0]
        match i, hx with
        | 0, hx => cases hx; exact ⟨q1, _, rfl, rfl, s12 _ _ e12⟩
        | 1, hx => cases hx; exact ⟨q2, _, rfl, rfl, by rw [List.map_append, List.map_reverse]; exact s14 _ _ e14⟩
        | 2, hx => cases hx; exact ⟨q3, _, rfl, rfl, s15 _ _ e15⟩
        | 3, hx => cases hx; exact ⟨q4, _, rfl, rfl, s16 _ _ e16⟩
        | 4, hx => cases hx; exact ⟨q5, _, rfl, rfl, s17 _ _ e17⟩
        | 5, hx => cases hx; exact ⟨q6, _, rfl, rfl, s18 _ _ e18⟩
        | i + 6, hx => simp at hx
      have e19H := gg9.fh _ _ e19
      clear e12 e13 e14 e15 e16 e17 e18 g1116 s18 s17 s16 s15 s14 s13 s12 gg8 gg7 gg6 gg5 gg4 gg3 gg2 h1b e11F
      lcg_off
      refine fk_list (xs := [V.ref q1, .ref q2, .ref q3, .ref q4, .ref q5, .ref q6]) (fun i σ H20 => ∃ F20, Grow [] F H' F20 H20 ∧ F20 qo = some (.lst [V.ref q1, .ref q2, .ref q3, .ref q4, .ref q5, .ref q6]) ∧ Same F19 F20 ∧ Hold F20 H20 fl (.lst ((f1 ++ ((chs d).take i).map (lineC r.sign)).map wd)) ∧ ∃ u8 u12 u13 u14, σ = [some (.ref L), some (.ref t), some (.str (tx r.sign)), some (.ref c), some (.str (tx r.maker)), some (.int (arityN r.sign : Nat)), some (.str (tx (beginL r.sign r.changed))), some (.ref p5), u8, some (.ref fl), some (.str (tx p0)), some (.ref D11), u12, u13, u14])
        ⟨F19, gg9, e19, Same.refl _, by rw [List.take_zero, List.map_nil, List.append_nil]; exact hold19, _, _, _, _, rfl⟩ (fun i σ H20 _ ⟨F20, g20, z, _⟩ => sqL_of (g20.fh _ _ z)) ?_ ?_
      · rintro i x σ H20 hx ⟨F20, g20, z20, s20, h20, u8', u12, u13, u14, rfl⟩
        obtain ⟨q, ch, rfl, hch, hqf⟩ := hq i x hx
        obtain ⟨cf, cl⟩ := chs_fit Z.lb ch (List.mem_append_left _ (List.mem_of_getElem? hch))
        have hqf20 := s20 _ _ hqf
        have hqH := g20.fh _ _ hqf20
        have h20h := h20.h
        lcg_off
        refine lcTx (fun _ => true) (fun m => m ++ [32]) g20.fh (sqL_of hqf20) (by omega) (fun wl F21 H21 hwl g21 Done Kept hd hk => ?_) fun F21 H21 p21 g21 n21 e21 => ?_
        · have hwl17 := (cf wl hwl).2.2
          lcg_off
          refine ⟨rfl, ?_⟩
          lcg_off
          refine iteT ?_
          lcg_off
          exact hk _ _ (Grow.refl g21.fh) rfl
        rw [List.filter_eq_self.mpr fun _ _ => rfl] at e21
        have h21 := h20.go0 g21
        have h21h := h21.h
        obtain ⟨ff1, ff2, ff3⟩ := flat_fit cf
        have hjl : ((ch.map (· ++ [32])).map (·.length)).sum + (ch.map (· ++ [32])).length * ([] : Wd).length ≤ 100000 := by
          have : ((ch.map (· ++ [32])).map (·.length)).sum = (ch.flatMap (· ++ [32])).length := by rw [List.length_flatMap, List.map_map]; rfl
          rw [this, List.length_nil, Nat.mul_zero]
          have := Nat.mul_le_mul_right (17 + 1) cl
          omega
        have hfl : (ch.flatMap (· ++ [32])).length ≤ 200 := by
          have := Nat.mul_le_mul_right (17 + 1) cl
          omega
        lcg_off
        refine rd_joinW (.inl (sqL_of (g21.fh _ _ e21))) hjl ?_
        rw [join_flat]
        generalize hfm : ch.flatMap (· ++ [32]) = fm at hfl
        lcg_off
        have hcl6 : (chs d).length = 6 := rfl
        refine rd_append h21.h (sz_lt (by simp; omega)) ?_
        lcg_off
        refine ⟨F21, (g20.trans g21).mut h21.f (.inr nfl), g21.ff _ _ z20, s20.trans g21.ff, ?_, _, _, _, _, rfl⟩
        rw [take_wd hch, show lineC r.sign ch = r.sign ++ [32, 99, 104, 97, 110, 103, 101, 115, 32] ++ fm ++ [98, 121, 32, 110, 97, 109, 101, 100] by unfold lineC wChanges; rw [hfm]; simp]
        exact h21.put
      rintro σ H20 ⟨F20, g20, z20, s20, h20, u8', u12, u13, u14, rfl⟩
      have hcs : (chs d).take 6 = chs d := List.take_of_length_le (by show 6 ≤ 6; decide)
      rw [show [V.ref q1, .ref q2, .ref q3, .ref q4, .ref q5, .ref q6].length = 6 from rfl, hcs] at h20
      obtain ⟨f2, hf2, hf2l⟩ : ∃ f2 : List Wd, f2 = f1 ++ (chs d).map (lineC r.sign) ∧ f2.length ≤ 70 := ⟨_, rfl, by have : (chs d).length = 6 := rfl; rw [List.length_append, List.length_map]; omega⟩
      rw [← hf2] at h20
      have hLd := g20.fh _ _ (g20.ff _ _ Z.li)
      have hPd := g20.fh _ _ (g20.ff _ _ Z.pa)
      have h20h := h20.h
      have ewr : f2 = ((mkOdd d r).map (fun m => beginL r.sign r.changed ++ [32] ++ wBy ++ [32] ++ m)) ++ [beginL r.sign r.changed, beginL r.sign r.changed ++ [32] ++ wBy ++ [32] ++ wBy ++ [32] ++ r.maker] ++ oddOps.map (· ++ wNamedB) ++ (chs d).map (lineC r.sign) := by rw [hf2, hf1, hf0]
      lcg_off
      refine ifD (fun c2 => ?_) (fun c2 => ?_)
      · have c2' : 1 < d.parts.length := by rw [List.length_map] at c2; omega
        lcg_off
        refine new_rev g20.fh (sqL_of hPd) fun F21 H21 p21 g21 _ e21 => ?_
        have h21 := h20.go0 g21
        have h21h := h21.h
        have e21' : F21 p21 = some (.lst (d.parts.reverse.map wd)) := by rw [List.map_reverse]; exact e21
        have hrl : d.parts.reverse.length ≤ 3 := by rw [List.length_reverse]; exact hpl
        have hrw : ∀ w ∈ d.parts.reverse, OkW 8 w := fun w hw => wf.pw w (by simpa using hw)
        have hnb : wNamedB.length = 9 := rfl
        have hsr := spaced_le hrl hrw
        have hsl2 := spaced_len hrl hrw
        lcg_off
        refine rd_joinW (.inl (sqL_of (g21.fh _ _ e21'))) (by show (d.parts.reverse.map (·.length)).sum + d.parts.reverse.length * 1 ≤ 100000; omega) ?_
        rw [show TL.joinL [32] d.parts.reverse = spaced d.parts.reverse from rfl]
        lcg_off
        refine rd_append h21.h (sz_lt (by simp; omega)) ?_
        lcg_off
        refine fin F21 _ (f2 ++ [r.sign ++ [32] ++ wChanges ++ [32] ++ spaced d.parts.reverse ++ wNamedB]) ((g20.trans g21).mut h21.f (.inr nfl)) ?_ ?_
        · rw [List.map_append, show r.sign ++ [32] ++ wChanges ++ [32] ++ spaced d.parts.reverse ++ wNamedB = r.sign ++ [32, 99, 104, 97, 110, 103, 101, 115, 32] ++ spaced d.parts.reverse ++ wNamedB by unfold wChanges; simp]
          exact h21.put
        · rw [ewr]
          unfold wrongOps
          rw [if_neg c1', if_pos c2']
          simp [mkOdd]
      · have c2' : ¬ 1 < d.parts.length := by rw [List.length_map] at c2; omega
        lcg_off
        refine fin F20 H20 f2 g20 h20 ?_
        rw [ewr]
        unfold wrongOps
        rw [if_neg c1', if_neg c2']
        simp [mkOdd]
    · have c1' : arityN r.sign = 0 := by omega
      lcg_off
      refine fin F10 H10 f1 g10 h10 ?_
      rw [hf1, hf0]
      unfold wrongOps
      rw [if_pos c1', List.append_nil]
      rfl
end
end Lb

namespace Lb
open PySem L2 Hk
/-! ### which line stands where -/
theorem heads_len' (d : Draft) : d.heads.length = 1 + d.parts.length + d.keeping.length + (match d.hook with | none => 0 | some _ => 1) := by
  rw [heads_keep]
  cases d.hook <;> simp <;> omega
inductive Sec (d : Draft) : Nat → Prop
  | name : Sec d 0
  | needs (i : Nat) (p : Wd) (h : d.parts[i]? = some p) : Sec d (1 + i)
  | keeps (i : Nat) (q : Wd × Wd) (h : d.keeping[i]? = some q) : Sec d (1 + d.parts.length + i)
  | hook (x : Wd) (h : d.hook = some x) : Sec d (1 + d.parts.length + d.keeping.length)
  | row (i : Nat) (r : Row3) (h : d.rows[i]? = some r) : Sec d (d.heads.length + i)
theorem lines_length (d : Draft) : d.lines.length = d.heads.length + d.rows.length := by rw [Draft.lines_eq]; simp
theorem sec_of {d : Draft} {k : Nat} (hk : k < d.lines.length) : Sec d k := by
  rw [lines_length] at hk
  have hh := heads_len' d
  by_cases c0 : k = 0
  · subst c0; exact .name
  by_cases c1 : k < 1 + d.parts.length
  · obtain ⟨i, rfl⟩ : ∃ i, k = 1 + i := ⟨k - 1, by omega⟩
    exact .needs i _ (List.getElem?_eq_getElem (by omega))
  by_cases c2 : k < 1 + d.parts.length + d.keeping.length
  · obtain ⟨i, rfl⟩ : ∃ i, k = 1 + d.parts.length + i := ⟨k - (1 + d.parts.length), by omega⟩
    exact .keeps i _ (List.getElem?_eq_getElem (by omega))
  by_cases c3 : k < d.heads.length
  · cases e : d.hook with
    | none => rw [e] at hh; simp at hh; omega
    | some x =>
      rw [e] at hh
      obtain rfl : k = 1 + d.parts.length + d.keeping.length := by simp at hh; omega
      exact .hook x e
  · obtain ⟨i, rfl⟩ : ∃ i, k = d.heads.length + i := ⟨k - d.heads.length, by omega⟩
    exact .row i _ (List.getElem?_eq_getElem (by omega))
theorem at_la {α : Type} (xs ys : List α) (i : Nat) : (xs ++ ys)[xs.length + i]? = ys[i]? := by
  rw [List.getElem?_append_right (by omega), Nat.add_sub_cancel_left]
theorem line_name (d : Draft) : d.lines[0]? = some (wLibrary ++ [32] ++ d.name) := by rw [Draft.lines_eq, heads_keep]; rfl
theorem line_needs {d : Draft} {i : Nat} {p : Wd} (h : d.parts[i]? = some p) : d.lines[1 + i]? = some (lineN p) := by
  have hi := (List.getElem?_eq_some_iff.mp h).1
  rw [Draft.lines_eq, heads_need, List.append_assoc, show 1 + i = ([wLibrary ++ [32] ++ d.name] : List Wd).length + i from rfl, at_la, List.append_assoc, List.getElem?_append_left (by rw [List.length_map]; exact hi), List.getElem?_map, h]
  rfl
theorem line_keeps {d : Draft} {i : Nat} {q : Wd × Wd} (h : d.keeping[i]? = some q) : d.lines[1 + d.parts.length + i]? = some (lineK q.1 q.2) := by
  have hi := (List.getElem?_eq_some_iff.mp h).1
  rw [Draft.lines_eq, heads_keep, List.append_assoc, show 1 + d.parts.length + i = ([wLibrary ++ [32] ++ d.name] ++ d.parts.map lineN).length + i by simp; omega, at_la, List.append_assoc, List.getElem?_append_left (by rw [List.length_map]; exact hi), List.getElem?_map, h]
  rfl
theorem line_hook {d : Draft} {x : Wd} (h : d.hook = some x) : d.lines[1 + d.parts.length + d.keeping.length]? = some (lineH x) := by
  rw [Draft.lines_eq, heads_keep, List.append_assoc, show 1 + d.parts.length + d.keeping.length = ([wLibrary ++ [32] ++ d.name] ++ d.parts.map lineN).length + (d.keeping.length + 0) by simp; omega, at_la, List.append_assoc]
  have e := at_la (d.keeping.map (fun p => lineK p.1 p.2)) ((match d.hook with | none => [] | some h => [lineH h]) ++ d.rows.map Row3.line) 0
  rw [List.length_map] at e
  refine e.trans ?_
  rw [h]
  rfl
theorem line_row {d : Draft} {i : Nat} {r : Row3} (h : d.rows[i]? = some r) : d.lines[d.heads.length + i]? = some r.line := by
  rw [Draft.lines_eq, at_la, List.getElem?_map, h]
  rfl
theorem lines_wo {d : Draft} (h : d.Wf) : WO 200 d.lines := by
  intro l hl
  rw [Draft.lines_eq] at hl
  rcases List.mem_append.mp hl with hl | hl
  · have := heads_len1 h l hl
    exact ⟨heads_okT h l hl, by omega⟩
  · obtain ⟨r, hr, rfl⟩ := List.mem_map.mp hl
    have wr := h.rw r hr
    have := row_line_len wr
    exact ⟨row_okT wr.s.1 (fun w hw => (wr.c w hw).1) wr.m.1, by omega⟩
theorem lines_two {d : Draft} (h : d.Lib) : ∀ l ∈ d.lines, (wordsL l).getD 0 [] ∈ [wNeeds, wKeeps] → 2 ≤ (wordsL l).length := by
  intro l hl hm
  obtain ⟨k, hk⟩ := List.getElem?_of_mem hl
  have hkl := (List.getElem?_eq_some_iff.mp hk).1
  cases sec_of hkl with
  | name =>
    rw [line_name] at hk
    obtain rfl := Option.some.inj hk
    rw [wordsName (class_sp h.nm).1]
    simp
  | needs i p hi =>
    rw [line_needs hi] at hk
    obtain rfl := Option.some.inj hk
    rw [wordsN (part_sp h p (List.mem_of_getElem? hi))]
    simp
  | keeps i q hi =>
    rw [line_keeps hi] at hk
    obtain rfl := Option.some.inj hk
    obtain ⟨p1, p2⟩ := keep_sp h q (List.mem_of_getElem? hi)
    rw [wordsK p1 p2]
    simp
  | hook x hx =>
    rw [line_hook hx] at hk
    obtain rfl := Option.some.inj hk
    rw [wordsH] at hm
    have hm : wHook ∈ [wNeeds, wKeeps] := hm
    exact absurd hm (by decide)
  | row i r hi =>
    rw [line_row hi] at hk
    obtain rfl := Option.some.inj hk
    have e : wordsL r.line = rowWs r.sign r.changed ++ wordsL r.maker := row_words r.maker h.pf (h.rs r (List.mem_of_getElem? hi))
    rw [e, List.length_append]
    have := wordsL_len r.maker
    have := List.length_pos_iff.mpr (rowWs_ne r.sign r.changed)
    omega
/-! ### texts replaced, made great -/
def ReplK (y z : Str) (x : V) (H : Hp) (Q : VK) : Prop := ∃ a, x = .str a ∧ a.length + (a.length + 1) * z.length ≤ 16777216 ∧ Q (.str (Txt.replace a y z)) H
theorem rd_replC {to : TE} {y z : Str} {σ : L2.St} {H : Hp} {Q : VK} (h : to σ H fun v H1 => ReplK y z v H1 Q) : CwR.tReplC to y z σ H Q := h
theorem repl_dbl (l : Wd) : Txt.replace (tx l) (tx [32]) (tx [32, 32]) = tx (dbl l) := by
  have h : Txt.replace (tx l) (tx [32]) (tx [32, 32]) = Str.join (tx [32, 32]) (Txt.split (tx l) (tx [32])) := StrLaws.replace_one (tx l) (tx [32, 32]) 32
  have e : Txt.split (tx l) (tx [32]) = (TL.spl [32] 0 [] l).map tx := SX.split_S (a := l) (b := [32]) (by simp) (by simp)
  rw [h, e]
  refine Eq.trans (TL.join_eq _ _).symm ?_
  exact SX.join_S [32, 32] (TL.spl [32] 0 [] l)
theorem rd_replW {l : Wd} {H : Hp} {Q : VK} (hl : l.length ≤ 1000) (q : Q (.str (tx (dbl l))) H) : ReplK (tx [32]) (tx [32, 32]) (.str (tx l)) H Q := by
  refine ⟨_, rfl, ?_, ?_⟩
  · rw [tx_len, tx_len]
    show l.length + (l.length + 1) * 2 ≤ 16777216
    omega
  · rw [repl_dbl]; exact q
theorem rd_upper {σ : L2.St} {H : Hp} {Q : VK} {n : Nat} {l : Wd} (e : σ[n]? = some (some (.str (tx l)))) (ho : okT l) (hl : l.length ≤ 1000) (q : Q (.str (tx (up l))) H) :
    tM0 (fun x xs H Q => ∃ a, x = V.str a ∧ xs = [] ∧ a.length ≤ 5592405 ∧ Q (V.str (Txt.upper a)) H) (tVar n) σ H Q := by
  refine ⟨_, e, ⟨_, rfl⟩, _, rfl, rfl, by rw [tx_len]; omega, ?_⟩
  have : Txt.upper (tx l) = tx (up l) := SX.upper_S (a := l) (by rw [List.all_eq_true]; exact fun c hc => decide_eq_true (ho c hc))
  rw [this]
  exact q
theorem dbl_ln {l : Wd} (h : l.length ≤ 200) : (dbl l).length ≤ 500 := by have := dbl_len l; omega
theorem dl_ln {l : Wd} : ((wordsL l).dropLast.map (·.length)).sum + (wordsL l).dropLast.length ≤ l.length + 1 := by
  have := dl_sum (wordsL l)
  have := words_sum l
  omega
local macro_rules | `(tactic| array_mem_dec) => `(tactic| with_reducible first
  | assumption | exact upd_same
  | (apply upd_new; assumption; array_mem_dec)
  | (apply upd_old; tlg_ne; array_mem_dec)
  | (apply same_at; assumption; array_mem_dec))
local macro_rules | `(tactic| tlg_ne) => `(tactic| with_reducible first
  | assumption | (apply Ne.symm; assumption)
  | (apply ne_new; assumption; array_mem_dec) | (apply ne_new'; assumption; array_mem_dec)
  | (apply ne_of; assumption; assumption; (with_unfolding_all (intro z; cases z; done))))
local macro_rules | `(tactic| decreasing_trivial_pre_omega) => `(tactic| with_reducible first
  | assumption | (apply sqL_of; array_mem_dec) | (apply sqT_of; array_mem_dec)
  | (apply Same.seq; assumption; decreasing_trivial_pre_omega) | (apply sqT_same; assumption; decreasing_trivial_pre_omega)
  | (apply sqL_new; assumption; decreasing_trivial_pre_omega) | (apply sqL_upd; tlg_ne; decreasing_trivial_pre_omega))
local macro_rules | `(tactic| kpt_turns) => `(tactic| with_reducible first
  | assumption | exact Same.refl _ | (apply same_ext; kpt_turns; assumption) | (apply same_mut; kpt_turns; keq_hits) | (apply same_step; assumption; kpt_turns))
local macro_rules | `(tactic| keq_hits) => `(tactic| with_reducible first | assumption | (apply same_none; assumption; keq_hits))
local macro_rules | `(tactic| sizeOf_list_dec) => `(tactic| first | (with_reducible assumption) | (with_reducible_and_instances omega) | (with_unfolding_all decide))
local macro_rules | `(tactic| array_get_dec) => `(tactic| first | (with_reducible assumption) | (apply sz_of; (with_unfolding_all simp); done) | (apply sz_of; omega) | (apply sz_lt; (with_unfolding_all simp); done) | (apply sz_lt; omega))
local macro_rules | `(tactic| keq_rows) => `(tactic| with_reducible first
  | apply rd_asgN | apply rd_seq | apply rd_parA | apply rd_par3A | apply rd_par2 | apply rd_par3 | apply rd_m1 | apply rd_isStr | apply rd_cval | apply rd_asg | apply rd_gname | apply rd_op | (show tVar _ _ _ _; refine rd_var (by with_unfolding_all rfl) ?_) | apply rd_c | apply rd_I0
  | apply rd_cons | apply rd_nil | apply rd_cb | apply rd_test | apply rd_bl | apply rd_fld | apply rd_drop | apply rd_ret | apply rd_retN | apply rd_next
  | apply rd_ifS | apply rd_un | apply rd_B | apply rd_and | apply rd_or | apply rd_not | apply rd_andV | apply rd_orV | apply rd_notV | apply rd_if
  | apply rd_int | apply rd_abs | apply rd_max | apply rd_min | apply rd_strS | apply rd_U
  | apply rd_eqTx | apply rd_neTx | apply rd_inTx | apply rd_notInTx | apply rd_fmt | (show FmtK (.str (tx _)) _ _; refine rd_fmtT (by omega) ?_) | apply rd_jsC | apply rd_jsN | (show JsK _ (tx _) _ (.str (tx _)) _ _; refine rd_JsK (by first | omega | (simp; done) | (simp; omega)) ?_) | (show rAddStr (.str (tx _)) (.str (tx _)) _ _; refine rd_addT (by first | omega | (simp; done) | (simp; omega)) ?_) | (show rLenStr [.str (tx _)] _ _; refine rd_lenTx (by omega) ?_)
  | (show rEq _ _ _ _; refine rd_eq (by with_unfolding_all rfl) ?_) | (show rNe _ _ _ _; refine rd_ne (by with_unfolding_all rfl) ?_) | apply rd_isNone | apply rd_notNone
  | (show rIxL _ _ _ _ _; refine rd_ixL (by decreasing_trivial_pre_omega) (by with_unfolding_all rfl) ?_) | (show rIxT _ _ _ _ _; refine rd_ixT (by decreasing_trivial_pre_omega) (by with_unfolding_all rfl) ?_)
  | (show rLenSeq _ _ _ _; refine rd_lenL (by decreasing_trivial_pre_omega) ?_) | (show rLenSeq _ _ _ _; refine rd_lenT (by decreasing_trivial_pre_omega) ?_)
  | (show rI _ _ _ _ _ _; refine rd_mod (by sizeOf_list_dec) ?_) | (show rI _ _ _ _ _ _; refine rd_div (by sizeOf_list_dec) (by sizeOf_list_dec) ?_) | (show rI _ _ _ _ _ _; refine rd_mulR (by sizeOf_list_dec) (by sizeOf_list_dec) ?_) | (show rI _ _ _ _ _ _; refine rd_mulL (by sizeOf_list_dec) (by sizeOf_list_dec) ?_) | (show rI _ _ _ _ _ _; refine rd_pow (by sizeOf_list_dec) ?_)
  | (show rSetL _ _ _ _ _; refine rd_setL (by array_mem_dec) (by with_unfolding_all rfl) ?_)
  | apply rd_inSign | apply rd_notInSign | apply rd_tupK | apply rd_lstK | apply rd_sl | apply rd_noPart | apply rd_part | apply rd_isInt
  | apply rd_gsub | apply rd_gcons | apply rd_gnil | apply rd_call | apply rd_meth | apply rd_make | apply rd_smeth | apply rd_isC | apply rd_smethK | apply rd_cmeth | apply rd_cmethK
  | apply rd_bm | apply rd_bm0 | (show BmK _ _ _ _ _ _ _ _; refine rd_bmL (by array_mem_dec) ?_) | (show Bm0K _ _ _ _ _ _; refine rd_bm0L (by array_mem_dec) ?_) | apply rd_sfld | apply rd_aug | apply rd_rAdd | apply rd_brk | apply rd_cont
  | apply rd_for | apply rd_iList | (show IList _ _ _ _; refine rd_IList (by decreasing_trivial_pre_omega) ?_) | apply rd_iTup | (show ITup _ _ _ _; refine rd_ITup (by decreasing_trivial_pre_omega) ?_) | apply rd_iEnum | (show IEnum _ _ _ _; refine rd_IEnum (by decreasing_trivial_pre_omega) ?_) | apply rd_iRng1 | (show IRng1 _ _ _; refine rd_IRng1 (by sizeOf_list_dec) (by sizeOf_list_dec) ?_)
  | (show rLenStr _ _ _; refine rd_lenS (by array_get_dec) ?_) | (show rAddStr _ _ _ _; refine rd_addS (by array_get_dec) ?_) | (show rSlS _ _ _ _ _; refine rd_slS (by array_get_dec) ?_) | apply rd_lc | apply rd_yes | (show gTup _ _ _ _ _ _ _; refine rd_gtup (by decreasing_trivial_pre_omega) (by with_unfolding_all rfl) ?_) | (show tMakeL _ _ _ _ _ _ _ _; refine rd_makeL (by with_unfolding_all rfl) ?_))
local macro_rules | `(tactic| kas_types) => `(tactic| with_reducible first | apply rd_isi_int_int | apply rd_isi_int_bool | apply rd_isi_int_str | apply rd_isi_int_list | apply rd_isi_int_tuple | apply rd_isi_bool_int | apply rd_isi_bool_bool | apply rd_isi_bool_str | apply rd_isi_bool_list | apply rd_isi_bool_tuple | apply rd_isi_str_int | apply rd_isi_str_bool | apply rd_isi_str_str | apply rd_isi_str_list | apply rd_isi_str_tuple | (show rIsi _ _ _ _; refine rd_isi_list_int (by array_mem_dec) ?_) | (show rIsi _ _ _ _; refine rd_isi_list_bool (by array_mem_dec) ?_) | (show rIsi _ _ _ _; refine rd_isi_list_str (by array_mem_dec) ?_) | (show rIsi _ _ _ _; refine rd_isi_list_list (by array_mem_dec) ?_) | (show rIsi _ _ _ _; refine rd_isi_list_tuple (by array_mem_dec) ?_) | (show rIsi _ _ _ _; refine rd_isi_tuple_int (by array_mem_dec) ?_) | (show rIsi _ _ _ _; refine rd_isi_tuple_bool (by array_mem_dec) ?_) | (show rIsi _ _ _ _; refine rd_isi_tuple_str (by array_mem_dec) ?_) | (show rIsi _ _ _ _; refine rd_isi_tuple_list (by array_mem_dec) ?_) | (show rIsi _ _ _ _; refine rd_isi_tuple_tuple (by array_mem_dec) ?_) | apply rd_isi_NoneType_int | apply rd_isi_NoneType_bool | apply rd_isi_NoneType_str | apply rd_isi_NoneType_list | apply rd_isi_NoneType_tuple)
local macro_rules | `(tactic| lcg_src) => `(tactic| repeat keq_rows)

local macro_rules | `(tactic| lcg_sub) => `(tactic| with_reducible first | apply rd_chain | apply rd_revL | apply rd_replC)
local macro_rules | `(tactic| lcg_off) => `(tactic| repeat (first | keq_rows | lcg_sub))
section
variable {P : Program} {w : World} {K : PySem.W.Frag} {mg : Str → Option Value} {base : Heap} {a : Ad}
def sp_law_wrong (K : PySem.W.Frag) : Sp := fun vs H Q _ => ∃ (F : Hp) (L pl kl rl ll : Addr) (ks rs : List V) (d : Draft) (k : Nat), vs = [.ref L, .ref ll, .int (k : Nat)] ∧ Same F H ∧ LibZ K F L pl kl rl ks rs d ∧ F ll = some (.lst (d.lines.map wd)) ∧ k < d.lines.length ∧
  ∀ F' H' p ws, Grow [] F H F' H' → F' p = some (.lst (ws.map wd)) → Wrongs d k ws → Q (.ref p) H'
theorem ok_law_wrong (T : Txt K mg a) : FnOk P w K mg base CX0 3 a.f_law_wrong a.fd_law_wrong ["_law_lib", "_law_lines_here", "_law_at_here"]  (sp_law_wrong K) := by
  refine T.F_law_wrong.ok sc_law_wrong (fun vs H Q E h => ?_) (fun cdv A outer s H vs Q E hr h => ?_)
  · obtain ⟨_, _, _, _, _, _, _, _, _, _, rfl, _⟩ := h
    rfl
  · obtain ⟨F, L, pl, kl, rl, ll, ks, rs, d, ix, rfl, fh, Z, hll, hix, k⟩ := h
    refine ⟨_, ((pss_cons (ps_asg (pe_tup (pa_cons (pe_ix ix_list (pv 1) (pv 2) (fun _ _ => rfl)) (pa_cons (pe_splitR (pe_ix ix_list (pv 1) (pv 2) (fun _ _ => rfl)) pe_str) pa_nil))) (pg_tup rfl (pgs_cons (pg_name (i := 3) sc_law_wrong.nd rfl (Or.inl rfl)) (pgs_cons (pg_name (i := 4) sc_law_wrong.nd rfl (Or.inr rfl)) pgs_nil))))
 (pss_cons (ps_set (i := 5) sc_law_wrong.nd rfl (Or.inl rfl) (pe_lst (pa_strT (pat_cons (CwR.PET.of (pe_op op_addStr (pv 3) pe_str)) (pat_cons (CwR.PET.of (pe_op op_addStr pe_str (pv 3))) (pat_cons (CwR.pet_replC (pv 3)) (pat_cons (CwR.PET.of (pe_op op_addStr (pv 3) pe_str)) (pat_cons (CwR.PET.of (pe_joinR (K := K) pe_str (pe_slice sl_list (pv 4) po_none (po_some (pe_un un_neg pe_int))))) (pat_cons (CwR.PET.of (pe_upper (pv 3))) pat_nil)))))))))
 (pss_cons (ps_if (pt_cmpR op_eq (pv 2) pe_int (nomark _))
 (pss_one (ps_ret (pe_op op_cat (pv 5) (pe_lc (own := [("_law_one", 6)]) (g := gName 6) (tt := tYes) rfl sc_law_wrong.nd (pi_list (pe_lst (pa_cons pe_str (pa_cons pe_str (pa_cons pe_str (pa_cons pe_str (pa_cons pe_str (pa_cons pe_str (pa_cons pe_str (pa_cons pe_str pa_nil)))))))))) (blkOk_by (own := [("_law_one", 6)]) (N := ["_law_lib", "_law_lines_here", "_law_at_here", "_law_line", "_law_words_here", "_law_found", "_law_one"]) (sc := defScope s_law_wrong) (by decide +kernel)) (fun _ _ _ _ _ => (pg_name (i := 6) sc_law_wrong.nd rfl (Or.inl rfl))) (fun _ _ _ _ _ => pts_nil) (fun _ _ _ _ _ => (pe_op op_addStr pe_str (pv 6)))))))
 pss_nil)
 (pss_cons (ps_if (pt_cmpR op_ge (pv 2) (pe_op op_sub (pe_callB call_lenSeq (by rfl) T.n_len (by decide +kernel) (pa_cons (pv 1) pa_nil)) (pe_callB call_lenSeq (by rfl) T.n_len (by decide +kernel) (pa_cons (pe_ix ix_list (pv 0) pe_int (fun _ _ => rfl)) pa_nil))) (nomark _))
 (pss_one (ps_ret (pe_op op_cat (pv 5) (pe_call (ok_law_wrong_operations T) hr rfl T.g_law_wrong_operations T.F_law_wrong_operations.kp T.b_law_wrong_operations .nil pass0 (pa_cons (pv 0) (pa_cons (pe_ix ix_list (pe_ix ix_list (pv 0) pe_int (fun _ _ => rfl)) (pe_op op_add (pe_op op_sub (pv 2) (pe_callB call_lenSeq (by rfl) T.n_len (by decide +kernel) (pa_cons (pv 1) pa_nil))) (pe_callB call_lenSeq (by rfl) T.n_len (by decide +kernel) (pa_cons (pe_ix ix_list (pv 0) pe_int (fun _ _ => rfl)) pa_nil))) (fun _ _ => rfl)) pa_nil))))))
 pss_nil)
 (pss_cons (ps_if (pt_cmpR op_eq (pe_ix ix_list (pv 4) pe_int (fun _ _ => rfl)) pe_str (nomark _))
 (pss_one (ps_ret (pe_op op_cat (pv 5) (pe_lc (own := [("_law_one", 6)]) (g := gName 6) (tt := tYes) rfl sc_law_wrong.nd (pi_list (pe_call (ok_law_wrong_fields T) (hr.mono (by decide)) rfl T.g_law_wrong_fields T.F_law_wrong_fields.kp T.b_law_wrong_fields .nil pass0 (pa_cons (pv 0) (pa_cons (pv 1) (pa_cons (pv 2) pa_nil))))) (blkOk_by (own := [("_law_one", 6)]) (N := ["_law_lib", "_law_lines_here", "_law_at_here", "_law_line", "_law_words_here", "_law_found", "_law_one"]) (sc := defScope s_law_wrong) (by decide +kernel)) (fun _ _ _ _ _ => (pg_name (i := 6) sc_law_wrong.nd rfl (Or.inl rfl))) (fun _ _ _ _ _ => pts_nil) (fun _ _ _ _ _ => (pe_op op_addStr pe_str (pv 6)))))))
 pss_nil)
 (pss_cons (ps_if (pt_cmpR op_eq (pe_ix ix_list (pv 4) pe_int (fun _ _ => rfl)) pe_str (nomark _))
 (pss_cons (ps_set (i := 5) sc_law_wrong.nd rfl (Or.inl rfl) (pe_op op_cat (pv 5) (pe_lc (own := [("_law_one", 6)]) (g := gName 6) (tt := tYes) rfl sc_law_wrong.nd (pi_list (pe_call (ok_law_wrong_fields T) (hr.mono (by decide)) rfl T.g_law_wrong_fields T.F_law_wrong_fields.kp T.b_law_wrong_fields .nil pass0 (pa_cons (pv 0) (pa_cons (pv 1) (pa_cons (pv 2) pa_nil))))) (blkOk_by (own := [("_law_one", 6)]) (N := ["_law_lib", "_law_lines_here", "_law_at_here", "_law_line", "_law_words_here", "_law_found", "_law_one"]) (sc := defScope s_law_wrong) (by decide +kernel)) (fun _ _ _ _ _ => (pg_name (i := 6) sc_law_wrong.nd rfl (Or.inl rfl))) (fun _ _ _ _ _ => pts_nil) (fun _ _ _ _ _ => (pe_op op_addStr (pe_op op_addStr (pe_op op_addStr pe_str (pv 6)) pe_str) (pe_ix (ix_listK (K := K)) (pv 4) pe_int (fun _ _ => rfl)))))))
 (pss_one (ps_ret (pe_op op_cat (pv 5) (pe_lc (own := [("_law_one", 6)]) (g := gName 6) (tt := tYes) rfl sc_law_wrong.nd (pi_list (pe_lst (pa_cons (pe_ix ix_list (pv 4) pe_int (fun _ _ => rfl)) (pa_cons pe_str (pa_cons (pe_ix ix_list (pv 0) pe_int (fun _ _ => rfl)) (pa_cons (pe_op op_addStr (pe_ix ix_list (pv 4) pe_int (fun _ _ => rfl)) pe_str) pa_nil)))))) (blkOk_by (own := [("_law_one", 6)]) (N := ["_law_lib", "_law_lines_here", "_law_at_here", "_law_line", "_law_words_here", "_law_found", "_law_one"]) (sc := defScope s_law_wrong) (by decide +kernel)) (fun _ _ _ _ _ => (pg_name (i := 6) sc_law_wrong.nd rfl (Or.inl rfl))) (fun _ _ _ _ _ => pts_nil) (fun _ _ _ _ _ => (pe_op op_addStr (pe_op op_addStr (pe_op op_addStr pe_str (pe_ix (ix_listK (K := K)) (pv 4) pe_int (fun _ _ => rfl))) pe_str) (pv 6))))))))
 pss_nil)
 (pss_one (ps_ret (pe_op op_cat (pv 5) (pe_lc (own := [("_law_one", 6)]) (g := gName 6) (tt := tYes) rfl sc_law_wrong.nd (pi_list (pe_lst (pa_cons pe_str (pa_cons pe_str (pa_cons pe_str (pa_cons pe_str (pa_cons pe_str (pa_cons pe_str pa_nil)))))))) (blkOk_by (own := [("_law_one", 6)]) (N := ["_law_lib", "_law_lines_here", "_law_at_here", "_law_line", "_law_words_here", "_law_found", "_law_one"]) (sc := defScope s_law_wrong) (by decide +kernel)) (fun _ _ _ _ _ => (pg_name (i := 6) sc_law_wrong.nd rfl (Or.inl rfl))) (fun _ _ _ _ _ => pts_nil) (fun _ _ _ _ _ => (pe_op op_addStr pe_str (pv 6)))))))))))))), ?_⟩
    try simp only [cxK, makeS_tx, changesS_tx, byS_tx, space_tx, none_tx, by_tx, make_tx, libraryS_tx, needsS_tx, keepsS_tx, ofS_tx, hookS_tx, needs_tx, keeps_tx, hook_tx, zt_0, zt_1, zt_2, zt_3, zt_4, zt_5, zt_6, zt_7, zt_8, zt_9, zt_10, zt_11, zt_12, zt_13, zt_14, zt_15, zt_16, zt_17, zt_18, zt_19, zt_20, zt_21, zt_22, zt_23, zt_24, zt_25, zt_26, zt_27, zt_28, zt_29, zt_30, zt_31, zt_32, zt_33, zt_34, zt_35, zt_36, zt_37]
    have wf := Z.lb.wf
    have hLL := fh _ _ hll
    have hLH := fh _ _ Z.li
    obtain ⟨l, hl⟩ : ∃ l, d.lines[ix]? = some l := ⟨_, List.getElem?_eq_getElem hix⟩
    obtain ⟨hlo, hll2⟩ := lines_wo wf l (List.mem_of_getElem? hl)
    have hat : atI (d.lines.map wd) ((ix : Nat) : Int) = some (.str (tx l)) := atI_at (by rw [List.getElem?_map, hl]; rfl)
    lcg_off
    refine rd_ixL (sqL_of hLL) hat ?_
    lcg_off
    refine rd_ixL (sqL_of hLL) hat ?_
    lcg_off
    refine new_split fh (by decide) (by omega) fun F1 H1 wl g1 n1 e1 => ?_
    rw [show TL.spl [32] 0 [] l = wordsL l from rfl] at e1
    lcg_off
    refine newT g1.fh fun F2 H2 tp g2 n2 e2 => ?_
    have g12 := g1.trans g2
    have e1' := g2.ff _ _ e1
    have e1H := g12.fh _ _ e1'
    have e2H := g12.fh _ _ e2
    have hdl := dl_ln (l := l)
    lcg_off
    refine rd_replW (by omega) ?_
    lcg_off
    refine new_sl g12.fh (sqL_of e1H) fun F3 H3 p3 g3 n3 e3 => ?_
    rw [show cutV ((wordsL l).map wd) none (some (-1)) = (wordsL l).dropLast.map wd from cutW_last _] at e3
    lcg_off
    refine rd_joinW (.inl (sqL_of (g3.fh _ _ e3))) (by show ((wordsL l).dropLast.map (·.length)).sum + (wordsL l).dropLast.length * 1 ≤ 100000; omega) ?_
    lcg_off
    refine rd_upper (by with_unfolding_all rfl) hlo (by omega) ?_
    lcg_off
    refine newL g3.fh fun F4 H4 p4 g4 n4 e4 => ?_
    have e4' : F4 p4 = some (.lst ((commonW l).map wd)) := e4
    have g14 := g12.trans (g3.trans g4)
    have e1'' := (g3.trans g4).ff _ _ e1'
    have hwH := g14.fh _ _ e1''
    have e4H := g14.fh _ _ e4'
    have hL4 := g14.fh _ _ (g14.ff _ _ Z.li)
    have hll4 := g14.ff _ _ hll
    have hll4H := g14.fh _ _ hll4
    have hro4 := g14.ff _ _ Z.ro
    have hro4H := g14.fh _ _ hro4
    have Z4 := Z.mono g14.ff
    clear e4 e3 e2 e2H e1' e1 e1H n1 n2 n3 n4 g1 g2 g3 g4 g12
    have cwl : (commonW l).length = 7 := rfl
    have hln := lines_length d
    have hrn := wf.rl
    have hhn := d.heads_len wf
    have hlnl : (d.lines.map wd).length = d.lines.length := List.length_map _
    have hrsl : rs.length = d.rows.length := by simpa using Z.rd.length
    have S := sec_of hix
    have ret : ∀ {p : Addr} {F5 H5 : Hp} {ys : List Wd}, Grow [] F4 H4 F5 H5 → F5 p = some (.lst (((commonW l) ++ ys).map wd)) → Wrongs d ix ((commonW l) ++ ys) → Q (.ref p) H5 := fun g5 e5 w5 => k _ _ _ _ (g14.trans g5) e5 w5
    lcg_off
    refine ifD (fun c0 => ?_) (fun c0 => ?_)
    · obtain rfl : ix = 0 := by have := V.int.inj c0; omega
      obtain rfl : wLibrary ++ [32] ++ d.name = l := by rw [line_name] at hl; exact Option.some.inj hl
      lcg_off
      refine newL g14.fh fun F5 H5 p5 g5 n5 e5 => ?_
      have e5' : F5 p5 = some (.lst (name0.map wd)) := e5
      have e5H := g5.fh _ _ e5'
      lcg_off
      refine lcTx (fun _ => true) (fun m => wLibrary ++ [32] ++ m) g5.fh (sqL_of e5') (by decide) (fun x F6 H6 hx g6 Done Kept hd hk => ?_) fun F6 H6 p6 g6 n6 e6 => ?_
      · have hxl : x.length ≤ 10 := (by decide : ∀ x ∈ name0, x.length ≤ 10) x hx
        lcg_off
        refine ⟨rfl, ?_⟩
        lcg_off
        refine iteT ?_
        lcg_off
        exact hk _ _ (Grow.refl g6.fh) rfl
      rw [List.filter_eq_self.mpr fun _ _ => rfl] at e6
      have g46 := g5.trans g6
      refine new_cat g6.fh (g46.fh _ _ (g46.ff _ _ e4')) (g6.fh _ _ e6) (by rw [List.length_map, List.length_map, List.length_map]; have : name0.length = 8 := rfl; omega) fun F7 H7 p7 g7 n7 e7 => ?_
      rw [← List.map_append] at e7
      exact ret (g46.trans g7) e7 .name
    have hi0 : ix ≠ 0 := fun z => c0 (by rw [z]; rfl)
    lcg_off
    refine ifD (fun c1 => ?_) (fun c1 => ?_)
    · have c1' : d.heads.length ≤ ix := by rw [hlnl, hrsl] at c1; omega
      obtain ⟨i, rfl⟩ : ∃ i, ix = d.heads.length + i := ⟨ix - d.heads.length, by omega⟩
      obtain ⟨r, hr1⟩ : ∃ r, d.rows[i]? = some r := ⟨_, List.getElem?_eq_getElem (by omega)⟩
      obtain rfl : r.line = l := by rw [line_row hr1] at hl; exact Option.some.inj hl
      have hrs : rs[i]? = some (rs[i]'(by have := (List.getElem?_eq_some_iff.mp hr1).1; omega)) := List.getElem?_eq_getElem _
      obtain ⟨dd, z1, z2⟩ := Z4.rd.get hrs
      rw [List.getElem?_map, hr1] at z1
      cases z1
      obtain ⟨tt, cc, ett, htt, hcc⟩ := prow_inv z2
      rw [ett] at hrs
      have ei : ((d.heads.length + i : Nat) : Int) - ((d.lines.map wd).length : Int) + (rs.length : Int) = ((i : Nat) : Int) := by rw [hlnl, hrsl]; omega
      lcg_off
      simp only [ei]
      refine rd_ixL (sqL_of hro4H) (atI_at hrs) ?_
      lcg_off
      refine ⟨F4, L, pl, kl, rl, tt, cc, ks, rs, d, r, rfl, g14.fh, Z4, List.mem_of_getElem? hr1, htt, hcc, fun F5 H5 p5 g5 e5 => ?_⟩
      refine new_cat g5.fh (g5.fh _ _ (g5.ff _ _ e4')) (g5.fh _ _ e5) (by
        have : (wrongOps d r).length ≤ 100 := by
          unfold wrongOps
          have h1 := mkOdd_len d r
          unfold mkOdd at h1
          have h2 : oddOps.length = 14 := rfl
          have h3 : (chs d).length = 6 := rfl
          split
          · simp only [List.length_append, List.length_map, List.length_cons, List.length_nil]
            omega
          · split <;> (simp only [List.length_append, List.length_map, List.length_cons, List.length_nil]; omega)
        rw [List.length_map, List.length_map]
        omega) fun F7 H7 p7 g7 n7 e7 => ?_
      rw [← List.map_append] at e7
      exact ret (g5.trans g7) e7 (.row i r hr1)
    have c1' : ix < d.heads.length := by rw [hlnl, hrsl] at c1; omega
    have fields : ∀ (Q2 : VK) (E2 : XK), (∀ F' H' p, Grow [] F4 H4 F' H' → F' p = some (.lst ((wrongF d (d.lines.take ix)).map wd)) → Q2 (.ref p) H') → sp_law_wrong_fields K [.ref L, .ref ll, .int (ix : Nat)] H4 Q2 E2 := fun Q2 E2 h =>
      ⟨F4, L, pl, kl, rl, ll, d.name, hookV d.hook, d.lines, ix, rfl, g14.fh, Z4.li, hll4, by omega, lines_wo wf, lines_two Z.lb, fun F5 H5 p5 g5 e5 => h F5 H5 p5 g5 e5⟩
    cases S with
    | name => exact absurd rfl hi0
    | row i r hi => omega
    | needs i p hi =>
      obtain rfl : lineN p = l := by rw [line_needs hi] at hl; exact Option.some.inj hl
      rw [wordsN (part_sp Z.lb p (List.mem_of_getElem? hi))] at hwH e1''
      have hwH' : H4 wl = some (.lst [.str (tx wNeeds), .str (tx p)]) := hwH
      clear hwH
      have hil := (List.getElem?_eq_some_iff.mp hi).1
      lcg_off
      refine ifT (by decide) ?_
      lcg_off
      refine fields _ _ fun F5 H5 p5 g5 e5 => ?_
      have wfit := wrongF_fit Z.lb (fun q hq => Z.lb.pf q (List.mem_of_mem_take hq)) (fun q hq => by cases hq) (lines_needs (d := d) (i := i) (by omega))
      have wlen : (wrongF d (d.lines.take (1 + i))).length ≤ 100 := by
        unfold wrongF knownL
        have h1 := List.length_filter_le (fun l => decide ((wordsL l).getD 0 [] ∈ [wNeeds, wKeeps])) (d.lines.take (1 + i))
        have h2 : (d.lines.take (1 + i)).length ≤ 13 := by rw [List.length_take]; omega
        have h3 : badF.length = 12 := rfl
        simp only [List.length_append, List.length_map, List.length_cons, List.length_nil]
        omega
      have e5H := g5.fh _ _ e5
      lcg_off
      refine lcTx (fun _ => true) lineN g5.fh (sqL_of e5) (by omega) (fun x F6 H6 hx g6 Done Kept hd hk => ?_) fun F6 H6 p6 g6 n6 e6 => ?_
      · have hxl := (wfit x hx).2.2
        lcg_off
        refine ⟨rfl, ?_⟩
        lcg_off
        refine iteT ?_
        lcg_off
        exact hk _ _ (Grow.refl g6.fh) rfl
      rw [List.filter_eq_self.mpr fun _ _ => rfl] at e6
      have g46 := g5.trans g6
      refine new_cat g6.fh (g46.fh _ _ (g46.ff _ _ e4')) (g6.fh _ _ e6) (by rw [List.length_map, List.length_map, List.length_map]; omega) fun F7 H7 p7 g7 n7 e7 => ?_
      rw [← List.map_append] at e7
      exact ret (g46.trans g7) e7 (.needs i p hi)
    | keeps i q hi =>
      obtain rfl : lineK q.1 q.2 = l := by rw [line_keeps hi] at hl; exact Option.some.inj hl
      obtain ⟨p1, p2⟩ := keep_sp Z.lb q (List.mem_of_getElem? hi)
      obtain ⟨kf1, kf2⟩ := keep_src Z.lb (List.mem_of_getElem? hi)
      have hq1 := (field_fit kf1).2.2
      have hq2 := (field_fit kf2).2.2
      rw [wordsK p1 p2] at hwH e1''
      have hwH' : H4 wl = some (.lst [.str (tx wKeeps), .str (tx q.1), .str (tx wOf), .str (tx q.2)]) := hwH
      have e1w : F4 wl = some (.lst [.str (tx wKeeps), .str (tx q.1), .str (tx wOf), .str (tx q.2)]) := e1''
      clear hwH e1''
      have hil := (List.getElem?_eq_some_iff.mp hi).1
      have hkl := wf.kl
      lcg_off
      refine ifF (by decide) ?_
      lcg_off
      refine ifT (by decide) ?_
      lcg_off
      refine fields _ _ fun F5 H5 p5 g5 e5 => ?_
      have wfit := wrongF_fit Z.lb Z.lb.pf (fun q hq => keep_src Z.lb (List.mem_of_mem_take hq)) (lines_keeps (d := d) (i := i) (by omega))
      have wlen : (wrongF d (d.lines.take (1 + d.parts.length + i))).length ≤ 100 := by
        unfold wrongF knownL
        have h1 := List.length_filter_le (fun l => decide ((wordsL l).getD 0 [] ∈ [wNeeds, wKeeps])) (d.lines.take (1 + d.parts.length + i))
        have h2 : (d.lines.take (1 + d.parts.length + i)).length ≤ 13 := by rw [List.length_take]; omega
        have h3 : badF.length = 12 := rfl
        simp only [List.length_append, List.length_map, List.length_cons, List.length_nil]
        omega
      have e5H := g5.fh _ _ e5
      lcg_off
      refine lcTx (fun _ => true) (fun x => lineK x q.2) g5.fh (sqL_of e5) (by omega) (fun x F6 H6 hx g6 Done Kept hd hk => ?_) fun F6 H6 p6 g6 n6 e6 => ?_
      · have hxl := (wfit x hx).2.2
        have hw6 := g6.fh _ _ (g6.ff _ _ (g5.ff _ _ e1w))
        lcg_off
        refine ⟨rfl, ?_⟩
        lcg_off
        refine iteT ?_
        lcg_off
        have := hk _ _ (Grow.refl g6.fh) rfl
        rw [show lineK x q.2 = [107, 101, 101, 112, 115, 32] ++ x ++ [32, 111, 102, 32] ++ q.2 by unfold lineK wKeeps wOf; simp] at this
        exact this
      rw [List.filter_eq_self.mpr fun _ _ => rfl] at e6
      have g46 := g5.trans g6
      refine new_cat g6.fh (g46.fh _ _ (g46.ff _ _ e4')) (g6.fh _ _ e6) (by rw [List.length_map, List.length_map, List.length_map]; omega) fun F7 H7 p7 g7 n7 e7 => ?_
      rw [← List.map_append] at e7
      have g47 := g46.trans g7
      have hw7 := g47.fh _ _ (g47.ff _ _ e1w)
      have hL7 := g47.fh _ _ (g47.ff _ _ Z4.li)
      have hq8 : q8.length = 8 := rfl
      lcg_off
      refine newL g47.fh fun F8 H8 p8 g8 n8 e8 => ?_
      have e8' : F8 p8 = some (.lst ([q.1, [], d.name, q.2 ++ q8].map wd)) := e8
      have e8H := g8.fh _ _ e8'
      have hnl := wf.nm.2
      lcg_off
      refine lcTx (fun _ => true) (fun x => lineK q.1 x) g8.fh (sqL_of e8') (by simp) (fun x F9 H9 hx g9 Done Kept hd hk => ?_) fun F9 H9 p9 g9 n9 e9 => ?_
      · have hxl : x.length ≤ 20 := by
          simp only [List.mem_cons, List.not_mem_nil, or_false] at hx
          rcases hx with rfl | rfl | rfl | rfl
          · omega
          · simp
          · omega
          · rw [List.length_append]; omega
        have hw9 := g9.fh _ _ (g9.ff _ _ (g8.ff _ _ (g47.ff _ _ e1w)))
        lcg_off
        refine ⟨rfl, ?_⟩
        lcg_off
        refine iteT ?_
        lcg_off
        have := hk _ _ (Grow.refl g9.fh) rfl
        rw [show lineK q.1 x = [107, 101, 101, 112, 115, 32] ++ q.1 ++ [32, 111, 102, 32] ++ x by unfold lineK wKeeps wOf; simp] at this
        exact this
      rw [List.filter_eq_self.mpr fun _ _ => rfl] at e9
      have g89 := g8.trans g9
      refine new_cat g9.fh (g89.fh _ _ (g89.ff _ _ e7)) (g9.fh _ _ e9) (by simp only [List.length_map, List.length_append, List.length_cons, List.length_nil]; omega) fun F10 H10 p10 g10 n10 e10 => ?_
      rw [← List.map_append, List.append_assoc] at e10
      exact ret (g47.trans (g89.trans g10)) e10 (by
        rw [← List.append_assoc]
        exact .keeps i q hi)
    | hook x hx =>
      obtain rfl : lineH x = l := by rw [line_hook hx] at hl; exact Option.some.inj hl
      have hxs : 32 ∉ x := by
        rcases Z.lb.hk x hx with hx | hx
        · exact (by decide : ∀ w ∈ hooks, 32 ∉ w) x hx
        · rw [hx]; decide
      rw [wordsH, wordsL_one hxs] at hwH e1''
      have hwH' : H4 wl = some (.lst [.str (tx wHook), .str (tx x)]) := hwH
      clear hwH
      lcg_off
      refine ifF (by decide) ?_
      lcg_off
      refine ifF (by decide) ?_
      lcg_off
      refine newL g14.fh fun F5 H5 p5 g5 n5 e5 => ?_
      have e5' : F5 p5 = some (.lst (hookBad.map wd)) := e5
      have e5H := g5.fh _ _ e5'
      lcg_off
      refine lcTx (fun _ => true) lineH g5.fh (sqL_of e5') (by decide) (fun x F6 H6 hx g6 Done Kept hd hk => ?_) fun F6 H6 p6 g6 n6 e6 => ?_
      · have hxl : x.length ≤ 10 := (by decide : ∀ x ∈ hookBad, x.length ≤ 10) x hx
        lcg_off
        refine ⟨rfl, ?_⟩
        lcg_off
        refine iteT ?_
        lcg_off
        exact hk _ _ (Grow.refl g6.fh) rfl
      rw [List.filter_eq_self.mpr fun _ _ => rfl] at e6
      have g46 := g5.trans g6
      refine new_cat g6.fh (g46.fh _ _ (g46.ff _ _ e4')) (g6.fh _ _ e6) (by rw [List.length_map, List.length_map, List.length_map]; have : hookBad.length = 6 := rfl; omega) fun F7 H7 p7 g7 n7 e7 => ?_
      rw [← List.map_append] at e7
      exact ret (g46.trans g7) e7 (.hook x hx)
end
end Lb

namespace Lb
open PySem L2 Hk
theorem kit_own {K : PySem.W.Frag} {C D : Addr} {b : Bool} (hd : PySem.W.hasDictIn K D = true) (ty : PySem.W.typeIn K (.ref D) = some (.type "type")) (hs : PySem.W.subIn K (.ref C) (.ref D) = some b) (self : PySem.W.subIn K (.ref C) (.ref C) = some true) : PySem.W.kitOne K (.ref C) (.ref D) = some b := by
  obtain ⟨cd, hcd, _⟩ := PySem.W.any_some hd
  unfold PySem.W.kitOne
  by_cases e : C = D
  · subst e
    rw [self] at hs
    cases hs
    simp
  · have e2 : (Value.ref C == Value.ref D) = false := Bool.eq_false_iff.mpr fun q => e (Value.ref.inj (beq_iff_eq.mp q))
    rw [e2, if_neg Bool.false_ne_true]
    unfold PySem.W.kitCls
    simp only [hcd, ty, Option.isSome_some, beq_self_eq_true, Bool.and_self, if_true]
    exact hs
theorem kit_blt {K : PySem.W.Frag} {C : Addr} {b : Bool} {n : String} (hm : PySem.W.kitMeta n = true) (hs : PySem.W.subIn K (.ref C) (.type n) = some b) : PySem.W.kitOne K (.ref C) (.type n) = some b := by
  have e2 : (Value.ref C == Value.type n) = false := Bool.eq_false_iff.mpr fun q => by cases beq_iff_eq.mp q
  unfold PySem.W.kitOne
  rw [e2, if_neg Bool.false_ne_true]
  unfold PySem.W.kitCls
  simp only [hm, if_true]
  exact hs
section
variable {K : PySem.W.Frag} {mg : Str → Option Value} {a : Ad}
theorem Txt.ex_bw (T : Txt K mg a) : PySem.W.exmOne K (.ref a.C_BadLibrary) (.ref a.C_BadWorld) = some false := PySem.W.exm_ref T.sb_BadWorld T.xhd_bw T.ty_BadWorld T.su_bw
theorem Txt.ex_bb (T : Txt K mg a) : PySem.W.exmOne K (.ref a.C_BadLibrary) (.ref a.C_BadLibrary) = some true := PySem.W.exm_ref T.sb_BadLibrary T.xf_BadLibrary.hdC T.ty_BadLibrary T.su_bl
theorem Txt.ki_bh (T : Txt K mg a) : PySem.W.kitOne K (.ref a.C_BadLibrary) (.ref a.C_HeirsbackError) = some true := kit_own T.xhd_hb T.ty_HeirsbackError T.su_bh T.su_bl
theorem Txt.ki_bv (T : Txt K mg a) : PySem.W.kitOne K (.ref a.C_BadLibrary) (.type "ValueError") = some true := kit_blt (by decide +kernel) T.su_bv
theorem Txt.ki_bk (T : Txt K mg a) : PySem.W.kitOne K (.ref a.C_BadLibrary) (.type "LookupError") = some false := kit_blt (by decide +kernel) T.su_bk
end
def readAt (l : Wd) : Int := match readL l with | .ok _ => -2 | .error n => (n : Nat)
/-! ### the spoilt texts -/
theorem set_lines {d : Draft} (h : d.Lib) {p : Nat} {ws : List Wd} {w : Wd} (hW : Wrongs d p ws) (hw : w ∈ ws) (hp : p < d.lines.length) : readAt (TL.joinL [10] (d.lines.set p w)) = (p : Nat) := by
  have ln : ∀ l ∈ d.lines, 10 ∉ l := by rw [Draft.lines_eq]; exact line_nl h d.rows fun q hq => ⟨h.rs q hq, Lib_nl h q hq⟩
  have := spoilt h hW hw (L := d.lines.set p w) (by rw [List.getElem?_set_self hp]) (fun l hl => by
    rcases List.mem_or_eq_of_mem_set hl with z | rfl
    · exact ln l z
    · exact (wrongs_fit h hW _ hw).nl) (by rw [List.take_set_of_le (Nat.le_refl _)]) (Nat.le_of_lt hp)
  unfold readAt
  rw [this]
theorem set_lines2 {d : Draft} (h : d.Lib) {p q : Nat} {ws vs : List Wd} {w v : Wd} (hW : Wrongs d p ws) (hw : w ∈ ws) (hV : Wrongs d q vs) (hv : v ∈ vs) (hp : p < d.lines.length) (hq : q < d.lines.length) : readAt (TL.joinL [10] ((d.lines.set p w).set q v)) = (min p q : Nat) := by
  have ln : ∀ l ∈ d.lines, 10 ∉ l := by rw [Draft.lines_eq]; exact line_nl h d.rows fun q hq => ⟨h.rs q hq, Lib_nl h q hq⟩
  have hL : ∀ l ∈ (d.lines.set p w).set q v, 10 ∉ l := fun l hl => by
    rcases List.mem_or_eq_of_mem_set hl with z | rfl
    · rcases List.mem_or_eq_of_mem_set z with z | rfl
      · exact ln l z
      · exact (wrongs_fit h hW _ hw).nl
    · exact (wrongs_fit h hV _ hv).nl
  unfold readAt
  by_cases c : q ≤ p
  · rw [Nat.min_eq_right c]
    have := spoilt h hV hv (L := (d.lines.set p w).set q v) (by rw [List.getElem?_set_self (by rw [List.length_set]; exact hq)]) hL (by rw [List.take_set_of_le (Nat.le_refl _), List.take_set_of_le c]) (Nat.le_of_lt hq)
    rw [this]
  · rw [Nat.min_eq_left (by omega)]
    have := spoilt h hW hw (L := (d.lines.set p w).set q v) (by rw [List.getElem?_set_ne (by omega), List.getElem?_set_self hp]) hL (by rw [List.take_set_of_le (by omega), List.take_set_of_le (Nat.le_refl _)]) (Nat.le_of_lt hp)
    rw [this]
theorem set_fit {L : List Wd} {p : Nat} {w : Wd} (h : ∀ l ∈ L, okT l ∧ l.length ≤ 300) (hw : Fit w) : ∀ l ∈ L.set p w, okT l ∧ l.length ≤ 300 := fun l hl => by
  rcases List.mem_or_eq_of_mem_set hl with z | rfl
  · exact h l z
  · exact ⟨hw.ok, hw.ln⟩
theorem fit_join {L : List Wd} (h : ∀ l ∈ L, okT l ∧ l.length ≤ 300) (hl : L.length ≤ 20) : okT (TL.joinL [10] L) ∧ (TL.joinL [10] L).length ≤ 9000 ∧ (L.map (·.length)).sum + L.length * 1 ≤ 100000 := by
  have h1 : (L.map (·.length)).sum ≤ 300 * L.length := sum_le fun w hw => (h w hw).2
  obtain ⟨a, b⟩ := join_ok (fun l hl => (h l hl).1) (by omega)
  exact ⟨a, b, by omega⟩
theorem lines_len13 {d : Draft} (h : d.Wf) : d.lines.length ≤ 13 := by
  have := h.rl
  have := d.heads_len h
  rw [lines_length]; omega
theorem joinL_snoc (c : Nat) (x : Wd) : ∀ {ls : List Wd}, ls ≠ [] → TL.joinL [c] (ls ++ [x]) = TL.joinL [c] ls ++ ([c] ++ x)
  | [], h => absurd rfl h
  | [w], _ => rfl
  | w :: v :: r, _ => by
    show w ++ ([c] ++ TL.joinL [c] ((v :: r) ++ [x])) = w ++ ([c] ++ TL.joinL [c] (v :: r)) ++ ([c] ++ x)
    rw [joinL_snoc c x (ls := v :: r) (by simp)]
    simp
theorem lines_ne (d : Draft) : d.lines ≠ [] := by
  intro z
  have := lines_length d
  rw [z, heads_len', List.length_nil] at this
  omega
theorem at_end {d : Draft} (h : d.Lib) : readAt (d.text ++ [10]) = (d.lines.length : Nat) := by
  have ln : ∀ l ∈ d.lines, 10 ∉ l := by rw [Draft.lines_eq]; exact line_nl h d.rows fun q hq => ⟨h.rs q hq, Lib_nl h q hq⟩
  have e : d.text ++ [10] = TL.joinL [10] (d.lines ++ [[]]) := by rw [joinL_snoc 10 [] (lines_ne d)]; rfl
  have := read_bad h (k := d.lines.length) (L := d.lines ++ [[]]) (w := []) (fun l hl => by
    rcases List.mem_append.mp hl with z | z
    · exact ln l z
    · rw [List.mem_singleton.mp z]; simp) (by rw [List.take_left, List.take_length]) (by rw [List.getElem?_append_right (Nat.le_refl _), Nat.sub_self]; rfl) (bad_end h) (Nat.le_refl _)
  unfold readAt
  rw [e, this]
theorem at_begin {d : Draft} (h : d.Lib) : readAt ([10] ++ d.text) = 0 := by
  have ln : ∀ l ∈ d.lines, 10 ∉ l := by rw [Draft.lines_eq]; exact line_nl h d.rows fun q hq => ⟨h.rs q hq, Lib_nl h q hq⟩
  have e : [10] ++ d.text = TL.joinL [10] ([] :: d.lines) := by
    cases hl : d.lines with
    | nil => exact absurd hl (lines_ne d)
    | cons x r => unfold Draft.text; rw [hl]; rfl
  have := read_bad h (k := 0) (L := [] :: d.lines) (w := []) (fun l hl => by
    rcases List.mem_cons.mp hl with rfl | z
    · simp
    · exact ln l z) rfl rfl bad_first (Nat.zero_le _)
  unfold readAt
  rw [e, this]
  rfl
theorem at_none : readAt [] = 0 := by decide +kernel
theorem at_text {d : Draft} (h : d.Lib) : readAt d.text = -2 := by
  unfold readAt Draft.text
  rw [read_lib h]
theorem text_fit {d : Draft} (h : d.Wf) : okT d.text ∧ d.text.length ≤ 8000 := by
  have hw := lines_wo h
  have h13 := lines_len13 h
  have h1 : (d.lines.map (·.length)).sum ≤ 200 * d.lines.length := sum_le fun w hw' => (hw w hw').2
  have h2 := joinL_len [10] d.lines
  have h3 : d.text.length ≤ (d.lines.map (·.length)).sum + d.lines.length * ([10] : List Nat).length := h2
  simp only [List.length_singleton] at h3
  exact ⟨joinL_okT 10 (by decide) fun l hl => (hw l hl).1, by omega⟩
theorem min_ne (p q : Nat) : (!decide (V.int ((min p q : Nat) : Int) = V.int (if (q : Int) < (p : Int) then (q : Int) else (p : Int)))) = false := by
  have : ((min p q : Nat) : Int) = (if (q : Int) < (p : Int) then (q : Int) else (p : Int)) := by
    split <;> omega
  rw [this]
  simp
theorem wrongF_len {d : Draft} (h : d.Wf) (k : Nat) : (wrongF d (d.lines.take k)).length ≤ 40 := by
  unfold wrongF knownL
  have h0 := lines_len13 h
  have h1 := List.length_filter_le (fun l => decide ((wordsL l).getD 0 [] ∈ [wNeeds, wKeeps])) (d.lines.take k)
  have h2 : (d.lines.take k).length ≤ 13 := by rw [List.length_take]; omega
  have h3 : badF.length = 12 := rfl
  simp only [List.length_append, List.length_map, List.length_cons, List.length_nil]
  omega
theorem wrongOps_len (d : Draft) (r : Row3) : (wrongOps d r).length ≤ 100 := by
  unfold wrongOps
  have h1 := mkOdd_len d r
  unfold mkOdd at h1
  have h2 : oddOps.length = 14 := rfl
  have h3 : (chs d).length = 6 := rfl
  split
  · simp only [List.length_append, List.length_map, List.length_cons, List.length_nil]
    omega
  · split <;> (simp only [List.length_append, List.length_map, List.length_cons, List.length_nil]; omega)
theorem wrongs_len {d : Draft} (h : d.Wf) {k : Nat} {ws : List Wd} (hW : Wrongs d k ws) : 0 < ws.length ∧ ws.length < 1000 := by
  have cw : ∀ l, (commonW l).length = 7 := fun _ => rfl
  cases hW with
  | name =>
    have h3 : name0.length = 8 := rfl
    simp only [List.length_append, List.length_map, cw]
    omega
  | needs i p hi =>
    have := wrongF_len h (1 + i)
    simp only [List.length_append, List.length_map, cw]
    omega
  | keeps i q hi =>
    have := wrongF_len h (1 + d.parts.length + i)
    simp only [List.length_append, List.length_map, cw, List.length_cons, List.length_nil]
    omega
  | hook x hx =>
    have h3 : hookBad.length = 6 := rfl
    simp only [List.length_append, List.length_map, cw]
    omega
  | row i r hi =>
    have := wrongOps_len d r
    simp only [List.length_append, cw]
    omega
local macro_rules | `(tactic| array_mem_dec) => `(tactic| with_reducible first
  | assumption | exact upd_same
  | (apply upd_new; assumption; array_mem_dec)
  | (apply upd_old; tlg_ne; array_mem_dec)
  | (apply same_at; assumption; array_mem_dec))
local macro_rules | `(tactic| tlg_ne) => `(tactic| with_reducible first
  | assumption | (apply Ne.symm; assumption)
  | (apply ne_new; assumption; array_mem_dec) | (apply ne_new'; assumption; array_mem_dec)
  | (apply ne_of; assumption; assumption; (with_unfolding_all (intro z; cases z; done))))
local macro_rules | `(tactic| decreasing_trivial_pre_omega) => `(tactic| with_reducible first
  | assumption | (apply sqL_of; array_mem_dec) | (apply sqT_of; array_mem_dec)
  | (apply Same.seq; assumption; decreasing_trivial_pre_omega) | (apply sqT_same; assumption; decreasing_trivial_pre_omega)
  | (apply sqL_new; assumption; decreasing_trivial_pre_omega) | (apply sqL_upd; tlg_ne; decreasing_trivial_pre_omega))
local macro_rules | `(tactic| kpt_turns) => `(tactic| with_reducible first
  | assumption | exact Same.refl _ | (apply same_ext; kpt_turns; assumption) | (apply same_mut; kpt_turns; keq_hits) | (apply same_step; assumption; kpt_turns))
local macro_rules | `(tactic| keq_hits) => `(tactic| with_reducible first | assumption | (apply same_none; assumption; keq_hits))
local macro_rules | `(tactic| sizeOf_list_dec) => `(tactic| first | (with_reducible assumption) | (with_reducible_and_instances omega) | (with_unfolding_all decide))
local macro_rules | `(tactic| array_get_dec) => `(tactic| first | (with_reducible assumption) | (apply sz_of; (with_unfolding_all simp); done) | (apply sz_of; omega) | (apply sz_lt; (with_unfolding_all simp); done) | (apply sz_lt; omega))
local macro_rules | `(tactic| keq_rows) => `(tactic| with_reducible first
  | apply rd_asgN | apply rd_seq | apply rd_parA | apply rd_par3A | apply rd_par2 | apply rd_par3 | apply rd_m1 | apply rd_isStr | apply rd_cval | apply rd_asg | apply rd_gname | apply rd_op | (show tVar _ _ _ _; refine rd_var (by with_unfolding_all rfl) ?_) | apply rd_c | apply rd_I0
  | apply rd_cons | apply rd_nil | apply rd_cb | apply rd_test | apply rd_bl | apply rd_fld | apply rd_drop | apply rd_ret | apply rd_retN | apply rd_next
  | apply rd_ifS | apply rd_un | apply rd_B | apply rd_and | apply rd_or | apply rd_not | apply rd_andV | apply rd_orV | apply rd_notV | apply rd_if
  | apply rd_int | apply rd_abs | apply rd_max | apply rd_min | apply rd_strS | apply rd_U
  | apply rd_eqTx | apply rd_neTx | apply rd_inTx | apply rd_notInTx | apply rd_fmt | (show FmtK (.str (tx _)) _ _; refine rd_fmtT (by omega) ?_) | apply rd_jsC | apply rd_jsN | (show JsK _ (tx _) _ (.str (tx _)) _ _; refine rd_JsK (by first | omega | (simp; done) | (simp; omega)) ?_) | (show rAddStr (.str (tx _)) (.str (tx _)) _ _; refine rd_addT (by first | omega | (simp; done) | (simp; omega)) ?_) | (show rLenStr [.str (tx _)] _ _; refine rd_lenTx (by omega) ?_)
  | (show rEq _ _ _ _; refine rd_eq (by with_unfolding_all rfl) ?_) | (show rNe _ _ _ _; refine rd_ne (by with_unfolding_all rfl) ?_) | apply rd_isNone | apply rd_notNone
  | (show rIxL _ _ _ _ _; refine rd_ixL (by decreasing_trivial_pre_omega) (by with_unfolding_all rfl) ?_) | (show rIxT _ _ _ _ _; refine rd_ixT (by decreasing_trivial_pre_omega) (by with_unfolding_all rfl) ?_)
  | (show rLenSeq _ _ _ _; refine rd_lenL (by decreasing_trivial_pre_omega) ?_) | (show rLenSeq _ _ _ _; refine rd_lenT (by decreasing_trivial_pre_omega) ?_)
  | (show rI _ _ _ _ _ _; refine rd_mod (by sizeOf_list_dec) ?_) | (show rI _ _ _ _ _ _; refine rd_div (by sizeOf_list_dec) (by sizeOf_list_dec) ?_) | (show rI _ _ _ _ _ _; refine rd_mulR (by sizeOf_list_dec) (by sizeOf_list_dec) ?_) | (show rI _ _ _ _ _ _; refine rd_mulL (by sizeOf_list_dec) (by sizeOf_list_dec) ?_) | (show rI _ _ _ _ _ _; refine rd_pow (by sizeOf_list_dec) ?_)
  | (show rSetL _ _ _ _ _; refine rd_setL (by array_mem_dec) (by with_unfolding_all rfl) ?_)
  | apply rd_inSign | apply rd_notInSign | apply rd_tupK | apply rd_lstK | apply rd_sl | apply rd_noPart | apply rd_part | apply rd_isInt
  | apply rd_gsub | apply rd_gcons | apply rd_gnil | apply rd_call | apply rd_meth | apply rd_make | apply rd_smeth | apply rd_isC | apply rd_smethK | apply rd_cmeth | apply rd_cmethK
  | apply rd_bm | apply rd_bm0 | (show BmK _ _ _ _ _ _ _ _; refine rd_bmL (by array_mem_dec) ?_) | (show Bm0K _ _ _ _ _ _; refine rd_bm0L (by array_mem_dec) ?_) | apply rd_sfld | apply rd_aug | apply rd_rAdd | apply rd_brk | apply rd_cont
  | apply rd_for | apply rd_iList | (show IList _ _ _ _; refine rd_IList (by decreasing_trivial_pre_omega) ?_) | apply rd_iTup | (show ITup _ _ _ _; refine rd_ITup (by decreasing_trivial_pre_omega) ?_) | apply rd_iEnum | (show IEnum _ _ _ _; refine rd_IEnum (by decreasing_trivial_pre_omega) ?_) | apply rd_iRng1 | (show IRng1 _ _ _; refine rd_IRng1 (by sizeOf_list_dec) (by sizeOf_list_dec) ?_)
  | (show rLenStr _ _ _; refine rd_lenS (by array_get_dec) ?_) | (show rAddStr _ _ _ _; refine rd_addS (by array_get_dec) ?_) | (show rSlS _ _ _ _ _; refine rd_slS (by array_get_dec) ?_) | apply rd_lc | apply rd_yes | (show gTup _ _ _ _ _ _ _; refine rd_gtup (by decreasing_trivial_pre_omega) (by with_unfolding_all rfl) ?_) | (show tMakeL _ _ _ _ _ _ _ _; refine rd_makeL (by with_unfolding_all rfl) ?_))
local macro_rules | `(tactic| kas_types) => `(tactic| with_reducible first | apply rd_isi_int_int | apply rd_isi_int_bool | apply rd_isi_int_str | apply rd_isi_int_list | apply rd_isi_int_tuple | apply rd_isi_bool_int | apply rd_isi_bool_bool | apply rd_isi_bool_str | apply rd_isi_bool_list | apply rd_isi_bool_tuple | apply rd_isi_str_int | apply rd_isi_str_bool | apply rd_isi_str_str | apply rd_isi_str_list | apply rd_isi_str_tuple | (show rIsi _ _ _ _; refine rd_isi_list_int (by array_mem_dec) ?_) | (show rIsi _ _ _ _; refine rd_isi_list_bool (by array_mem_dec) ?_) | (show rIsi _ _ _ _; refine rd_isi_list_str (by array_mem_dec) ?_) | (show rIsi _ _ _ _; refine rd_isi_list_list (by array_mem_dec) ?_) | (show rIsi _ _ _ _; refine rd_isi_list_tuple (by array_mem_dec) ?_) | (show rIsi _ _ _ _; refine rd_isi_tuple_int (by array_mem_dec) ?_) | (show rIsi _ _ _ _; refine rd_isi_tuple_bool (by array_mem_dec) ?_) | (show rIsi _ _ _ _; refine rd_isi_tuple_str (by array_mem_dec) ?_) | (show rIsi _ _ _ _; refine rd_isi_tuple_list (by array_mem_dec) ?_) | (show rIsi _ _ _ _; refine rd_isi_tuple_tuple (by array_mem_dec) ?_) | apply rd_isi_NoneType_int | apply rd_isi_NoneType_bool | apply rd_isi_NoneType_str | apply rd_isi_NoneType_list | apply rd_isi_NoneType_tuple)
local macro_rules | `(tactic| lcg_src) => `(tactic| repeat keq_rows)

local macro_rules | `(tactic| lcg_sub) => `(tactic| with_reducible first | apply rd_chain | apply rd_cmethS)
local macro_rules | `(tactic| lcg_off) => `(tactic| repeat (first | keq_rows | lcg_sub))
section
variable {P : Program} {w : World} {K : PySem.W.Frag} {mg : Str → Option Value} {base : Heap} {a : Ad}
def sp_law_at (a : Ad) (K : PySem.W.Frag) : Sp := fun vs H Q _ => ∃ (F : Hp) (v : V), vs = [v] ∧ Same F H ∧
  ((∃ l : Wd, v = .str (tx l) ∧ okT l ∧ l.length ≤ 9000 ∧ ∀ F' H', Grow [] F H F' H' → Q (.int (readAt l)) H') ∨ (NotStr K H v ∧ ∀ F' H', Grow [] F H F' H' → Q (.int (-1)) H'))
theorem ok_law_at (T : Txt K mg a) : FnOk P w K mg base CX0 7 a.f_law_at a.fd_law_at ["_law_thing"]  (sp_law_at a K) := by
  refine T.F_law_at.ok sc_law_at (fun vs H Q E h => ?_) (fun cdv A outer s H vs Q E hr h => ?_)
  · obtain ⟨_, _, rfl, _⟩ := h
    rfl
  · obtain ⟨F, v, rfl, fh, h⟩ := h
    refine ⟨_, ((pss_cons (ps_tryN rfl rfl sc_law_at.nd takes0 (fun W pn xe tk _ => (pss_one (ps_expr (pe_cmethS (pe_glob (v := .ref _) rfl T.g_Library rfl) T.cr_Library T.cm_Library_read (fnR_of (ok_Library_read T) T.b_Library_read) hr (fun σ => passAt tk σ) (pa_cons (pv 0) pa_nil)))))
 (.bare ⟨rfl, by decide, .inl T.g_BadWorld⟩ (fun a oe cls d pn hz hf => (pss_one (ps_ret (pe_un un_neg pe_int))))
 (.cons (i := 1) rfl rfl ⟨rfl, by decide, .inl T.g_BadLibrary⟩ (fun a oe cls d pn hz hf => (pss_cons (ps_set (i := 2) sc_law_at.nd rfl (Or.inl rfl) (pe_xf T.xf_BadLibrary T.no_BadLibrary_at hz hf (pv 1)))
 (pss_cons (ps_if (PW.pt (pw_or (pt_not (pt_val (pe_callB (call_isX T.xc_BadLibrary hz hf) (by rfl) T.n_isinstance (by decide +kernel) (pa_cons (pv 1) (pa_cons (pe_glob (v := .ref _) rfl T.g_HeirsbackError rfl) pa_nil))))) (pw_or (pt_not (pt_val (pe_callB (call_isX T.xc_BadLibrary hz hf) (by rfl) T.n_isinstance (by decide +kernel) (pa_cons (pv 1) (pa_cons (pe_bltn (v := .ty "ValueError") (by rfl) T.n_ValueError (by decide +kernel) rfl) pa_nil))))) (pw_or1 (pt_val (pe_callB (call_isX T.xc_BadLibrary hz hf) (by rfl) T.n_isinstance (by decide +kernel) (pa_cons (pv 1) (pa_cons (pe_bltn (v := .ty "LookupError") (by rfl) T.n_LookupError (by decide +kernel) rfl) pa_nil))))))))
 (pss_one (ps_ret (pe_un un_neg pe_int)))
 pss_nil)
 (pss_one (ps_ret (pe_ifExp (PW.pt (pw_and (pt_val (pe_callB (call_isi_K (K := K)) (by rfl) T.n_isinstance (by decide +kernel) (pa_cons (pv 2) (pa_cons (pe_bltn (v := .ty "int") (by rfl) T.n_int (by decide +kernel) rfl) pa_nil)))) (pw_and1 (pt_not (pt_val (pe_callB (call_isi_K (K := K)) (by rfl) T.n_isinstance (by decide +kernel) (pa_cons (pv 2) (pa_cons (pe_bltn (v := .ty "bool") (by rfl) T.n_bool (by decide +kernel) rfl) pa_nil)))))))) (pv 2) (pe_un un_neg pe_int)))))))
 .nil)))
 (pss_one (ps_ret (pe_un un_neg pe_int))))), ?_⟩
    try simp only [cxK]
    lcg_off
    rcases h with ⟨l, rfl, ho, hl, q⟩ | ⟨hn, q⟩
    · refine ⟨F, _, rfl, fh, .inl ⟨l, rfl, ho, hl, fun d hd F' H' p g' _ => ?_, fun n hn => ?_⟩⟩
      · lcg_off
        have := q F' H' g'
        unfold readAt at this
        rw [hd] at this
        exact this
      · intro dd H' s' n' e'
        refine rd_wNN T.ex_bw (rd_wNY T.ex_bb ?_)
        intro ax hax
        lcg_off
        refine rd_xf ?_
        lcg_off
        refine ⟨rfl, dd, _, .int (n : Nat), rfl, e', by simp [List.lookup], ?_⟩
        lcg_off
        refine rd_isX e' (.own _) T.ki_bh ?_
        lcg_off
        refine ifF rfl ?_
        lcg_off
        refine rd_isX e' (.ty _) T.ki_bv ?_
        lcg_off
        refine ifF rfl ?_
        lcg_off
        refine rd_isX e' (.ty _) T.ki_bk ?_
        lcg_off
        refine ifF rfl ?_
        lcg_off
        kas_types
        lcg_off
        refine ifT rfl ?_
        lcg_off
        kas_types
        lcg_off
        refine ifT rfl ?_
        lcg_off
        have := q F H' (Grow.ofSame' fh s')
        unfold readAt at this
        rw [hn] at this
        exact this
    · refine ⟨F, _, rfl, fh, .inr ⟨hn, ?_⟩⟩
      intro dd H' s' n' e'
      refine rd_wNN T.ex_bw (rd_wNY T.ex_bb ?_)
      intro ax hax
      lcg_off
      refine rd_xf ?_
      lcg_off
      refine ⟨rfl, dd, _, .int (-1), rfl, e', by simp [List.lookup], ?_⟩
      lcg_off
      refine rd_isX e' (.own _) T.ki_bh ?_
      lcg_off
      refine ifF rfl ?_
      lcg_off
      refine rd_isX e' (.ty _) T.ki_bv ?_
      lcg_off
      refine ifF rfl ?_
      lcg_off
      refine rd_isX e' (.ty _) T.ki_bk ?_
      lcg_off
      refine ifF rfl ?_
      lcg_off
      kas_types
      lcg_off
      refine ifT rfl ?_
      lcg_off
      kas_types
      lcg_off
      refine ifT rfl ?_
      lcg_off
      exact q F H' (Grow.ofSame' fh s')
theorem ask_str {F H : Hp} {p : Addr} {d : Draft} {Q : VK} {E : XK} (fh : Same F H) (h : IsLib a K F p d) (q : Q (.str (tx d.text)) H) : rStrO a.C_Library (sp_Library_str a K) E [.ref p] H Q := by
  have h' := h
  obtain ⟨dx, np, kp, rp, op, cp, mp, L⟩ := h
  exact ⟨p, dx, _, rfl, fh _ _ L.me, F, p, d, rfl, fh, h', _, rfl, q⟩
def sp_law (K : PySem.W.Frag) : Sp := fun vs H Q _ => ∃ (sc : Addr) (ns : List Int), vs = [.ref sc] ∧ SqL K H sc (ns.map V.int) ∧ ns.length ≤ 63 ∧ ∀ H', Q (.bl true) H'
theorem ok_law (T : Txt K mg a) : FnOk P w K mg base CX0 8 a.f_law a.fd_law ["_law_script"]  (sp_law K) := by
  refine T.F_law.ok sc_law (fun vs H Q E h => ?_) (fun cdv A outer s H vs Q E hr h => ?_)
  · obtain ⟨_, _, rfl, _⟩ := h
    rfl
  · obtain ⟨sc, ns, rfl, hS, hl, k⟩ := h
    refine ⟨_, ((pss_cons (ps_for PassesOwn.never rfl (pi_range1 rfl T.n_range (pa_cons (pe_callB (call_maxI rfl) (by rfl) T.n_max (by decide +kernel) (pa_cons pe_int (pa_cons (pe_callB (call_minI rfl) (by rfl) T.n_min (by decide +kernel) (pa_cons pe_int (pa_cons (pe_callB call_lenSeq (by rfl) T.n_len (by decide +kernel) (pa_cons (pv 0) pa_nil)) pa_nil))) pa_nil))) pa_nil)) (pg_name (i := 1) sc_law.nd rfl (Or.inl rfl))
 (pss_cons (ps_set (i := 2) sc_law.nd rfl (Or.inl rfl) (pe_call (ok_law_bag T) (hr.mono (by decide)) rfl T.g_law_bag T.F_law_bag.kp T.b_law_bag .nil pass0 (pa_cons (pv 0) (pa_cons (pv 1) (pa_cons pe_int pa_nil)))))
 (pss_cons (ps_set (i := 3) sc_law.nd rfl (Or.inl rfl) (pe_call (ok_law_library T) (hr.mono (by decide)) rfl T.g_law_library T.F_law_library.kp T.b_law_library .nil pass0 (pa_cons (pv 2) (pa_cons (pe_call (ok_law_words T) (hr.mono (by decide)) rfl T.g_law_words T.F_law_words.kp T.b_law_words .nil pass0 (pa_cons (pv 2) (pa_cons pe_int pa_nil))) (pa_cons (pe_ix ix_list (pe_call (ok_law_titles T) (hr.mono (by decide)) rfl T.g_law_titles T.F_law_titles.kp T.b_law_titles .nil pass0 (pa_cons (pv 2) (pa_cons pe_int pa_nil))) pe_int (fun _ _ => rfl)) (pa_cons pe_int pa_nil))))))
 (pss_cons (ps_set (i := 4) sc_law.nd rfl (Or.inl rfl) (pe_call (ok_law_lines T) (hr.mono (by decide)) rfl T.g_law_lines T.F_law_lines.kp T.b_law_lines .nil pass0 (pa_cons (pv 3) pa_nil)))
 (pss_cons (ps_for PassesOwn.never rfl (pi_range1 rfl T.n_range (pa_cons pe_int pa_nil)) (pg_name (i := 5) sc_law.nd rfl (Or.inl rfl))
 (pss_cons (ps_set (i := 6) sc_law.nd rfl (Or.inl rfl) (pe_call (ok_law_take T) (hr.mono (by decide)) rfl T.g_law_take T.F_law_take.kp T.b_law_take .nil pass0 (pa_cons (pv 2) (pa_cons (pe_callB call_lenSeq (by rfl) T.n_len (by decide +kernel) (pa_cons (pv 4) pa_nil)) pa_nil))))
 (pss_cons (ps_set (i := 7) sc_law.nd rfl (Or.inl rfl) (pe_callTy call_listOf (by rfl) T.n_list (by decide +kernel) (pa_cons (pv 4) pa_nil)))
 (pss_cons (ps_asg (pe_call (ok_law_of T) (hr.mono (by decide)) rfl T.g_law_of T.F_law_of.kp T.b_law_of .nil pass0 (pa_cons (pv 2) (pa_cons (pe_call (ok_law_wrong T) (hr.mono (by decide)) rfl T.g_law_wrong T.F_law_wrong.kp T.b_law_wrong .nil pass0 (pa_cons (pv 3) (pa_cons (pv 4) (pa_cons (pv 6) pa_nil)))) pa_nil))) (pg_sub (pv 7) (pv 6) set_list))
 (pss_cons (ps_set (i := 8) sc_law.nd rfl (Or.inl rfl) (pe_call (ok_law_take T) (hr.mono (by decide)) rfl T.g_law_take T.F_law_take.kp T.b_law_take .nil pass0 (pa_cons (pv 2) (pa_cons (pe_op op_mul pe_int (pe_callB call_lenSeq (by rfl) T.n_len (by decide +kernel) (pa_cons (pv 4) pa_nil))) pa_nil))))
 (Evl.pss_cut (ps_if (pt_cmpR op_lt (pv 8) (pe_callB call_lenSeq (by rfl) T.n_len (by decide +kernel) (pa_cons (pv 4) pa_nil)) (nomark _))
 (pss_one (ps_asg (pe_call (ok_law_of T) (hr.mono (by decide)) rfl T.g_law_of T.F_law_of.kp T.b_law_of .nil pass0 (pa_cons (pv 2) (pa_cons (pe_call (ok_law_wrong T) (hr.mono (by decide)) rfl T.g_law_wrong T.F_law_wrong.kp T.b_law_wrong .nil pass0 (pa_cons (pv 3) (pa_cons (pv 4) (pa_cons (pv 8) pa_nil)))) pa_nil))) (pg_sub (pv 7) (pv 8) set_list)))
 pss_nil)
 (pss_one (ps_if (pt_cmpR op_ne (pe_call (ok_law_at T) hr rfl T.g_law_at T.F_law_at.kp T.b_law_at .nil pass0 (pa_cons (pe_joinR (K := K) pe_str (pv 7)) pa_nil)) (pe_callB (call_minI rfl) (by rfl) T.n_min (by decide +kernel) (pa_cons (pv 6) (pa_cons (pv 8) pa_nil))) (nomark _))
 (pss_one (ps_ret pe_bl))
 pss_nil))))))))
 (pss_cons (ps_set (i := 9) sc_law.nd rfl (Or.inl rfl) (pe_joinR (K := K) pe_str (pv 4)))
 (pss_cons (ps_if (PW.pt (pw_or (pt_cmpR op_ne (pe_call (ok_law_at T) hr rfl T.g_law_at T.F_law_at.kp T.b_law_at .nil pass0 (pa_cons (pe_op op_addStr (pv 9) pe_str) pa_nil)) (pe_callB call_lenSeq (by rfl) T.n_len (by decide +kernel) (pa_cons (pv 4) pa_nil)) (nomark _)) (pw_or (pt_cmpR op_ne (pe_call (ok_law_at T) hr rfl T.g_law_at T.F_law_at.kp T.b_law_at .nil pass0 (pa_cons (pe_op op_addStr pe_str (pv 9)) pa_nil)) pe_int (nomark _)) (pw_or1 (pt_cmpR op_ne (pe_call (ok_law_at T) hr rfl T.g_law_at T.F_law_at.kp T.b_law_at .nil pass0 (pa_cons (pv 9) pa_nil)) (pe_un un_neg pe_int) (nomark _))))))
 (pss_one (ps_ret pe_bl))
 pss_nil)
 (pss_cons (ps_for PassesOwn.never rfl (pi_list (pe_lst (pa_cons pe_non (pa_cons pe_int (pa_cons pe_bl (pa_cons (pe_lst (pa_cons (pv 9) pa_nil)) (pa_cons (pe_tup (pa_cons (pv 9) pa_nil)) (pa_cons (pv 4) (pa_cons (pe_callTy call_tupOf (by rfl) T.n_tuple (by decide +kernel) (pa_cons (pv 4) pa_nil)) (pa_cons (pe_lst pa_nil) (pa_cons (pe_tup pa_nil) pa_nil))))))))))) (pg_name (i := 10) sc_law.nd rfl (Or.inl rfl))
 (pss_one (ps_if (pt_cmpR op_ne (pe_call (ok_law_at T) hr rfl T.g_law_at T.F_law_at.kp T.b_law_at .nil pass0 (pa_cons (pv 10) pa_nil)) (pe_un un_neg pe_int) (nomark _))
 (pss_one (ps_ret pe_bl))
 pss_nil)))
 (pss_one (ps_if (PW.pt (pw_or (pt_cmpR op_ne (pe_call (ok_law_at T) hr rfl T.g_law_at T.F_law_at.kp T.b_law_at .nil pass0 (pa_cons pe_str pa_nil)) pe_int (nomark _)) (pw_or1 (pt_cmpR op_ne (pe_callTy (call_strO (own_Library_str T) (hr.mono (by decide))) (by rfl) T.n_str (by decide +kernel) (pa_cons (ClX.pe_cmeth (pe_glob (v := .ref _) rfl T.g_Library rfl) T.cr_Library T.cm_Library_read (fnR_of (ok_Library_read T) T.b_Library_read) (hr.mono (by decide)) passN (pa_cons (pv 9) pa_nil)) pa_nil)) (pv 9) (nomark _)))))
 (pss_one (ps_ret pe_bl))
 pss_nil))))))))))
 (pss_one (ps_ret pe_bl)))), ?_⟩
    try simp only [cxK, nl_tx, none_tx]
    lcg_off
    have hr5 : ∀ z : Int, z = (if (if (ns.map V.int).length < (4 : Int) then ((ns.map V.int).length : Int) else 4) > 1 then (if (ns.map V.int).length < (4 : Int) then ((ns.map V.int).length : Int) else 4) else 1) → 1 ≤ z ∧ z ≤ 4 := fun z hz => by
      split at hz <;> (try split at hz) <;> omega
    obtain ⟨hz1, hz5⟩ := hr5 _ rfl
    generalize (if (if (ns.map V.int).length < (4 : Int) then ((ns.map V.int).length : Int) else 4) > 1 then (if (ns.map V.int).length < (4 : Int) then ((ns.map V.int).length : Int) else 4) else 1) = z at hz1 hz5
    refine fk_range (fun i σ H2 => Same H H2 ∧ ∃ u1 u2 u3 u4 u5 u6 u7 u8 u9 u10 : Option V, σ = [some (.ref sc), u1, u2, u3, u4, u5, u6, u7, u8, u9, u10]) ⟨Same.refl _, _, _, _, _, _, _, _, _, _, _, rfl⟩ ?_ ?_
    · rintro i σ H2 hi ⟨s2, w1, w2, w3, w4, w5, w6, w7, w8, w9, w10, rfl⟩
      lcg_off
      refine bag_ok (s2.seq hS) (by omega) (by omega) hl fun b F H3 sF hb => ?_
      lcg_off
      refine ⟨F, b, 5, rfl, hb, by decide, fun F4 H4 fl fs g4 hb4 nfl hfl hfn hff hnd => ?_⟩
      have nflb : fl ≠ b := fun z => hb.nn (z ▸ nfl)
      lcg_off
      refine ⟨F4, b, 1, rfl, hb4, by decide, fun F5 H5 tl ts g5 hb5 ntl htl htn htt _ => ?_⟩
      obtain ⟨t, rfl⟩ : ∃ t, ts = [t] := by
        match ts, htn with
        | [t], _ => exact ⟨t, rfl⟩
      have ht := htt t (by simp)
      have htlH := htl.h
      refine rd_ixL (sqL_of htlH) (v := .str (tx t)) rfl ?_
      have hf5 := hfl.goB g5 nflb
      have g15 := g4.trans g5
      lcg_off
      refine ⟨F, H3, F5, b, fl, fs, t, 6, rfl, g15, hb5, nfl, nflb, hf5, hnd, hff, by omega, by omega, ht, by decide, by decide, fun F6 H6 L pl kl rl d rest g6 hb6 hf6 LV nrl nrb nrf hdn => ?_⟩
      obtain ⟨rs, hr1, hr2⟩ := LV.ro
      obtain ⟨ks, hk1, hk2⟩ := LV.ke
      have g6' := g6.frz hr1.h hr1.f nrl
      have hb6' := bag_frz hb6 hr1.h nrb
      have sZ : Same F6 (upd F6 rl (.lst rs)) := same_new hr1.f
      have Z : LibZ K (upd F6 rl (.lst rs)) L pl kl rl ks rs d := ⟨sZ _ _ LV.li, sZ _ _ LV.pa, sZ _ _ hk1, hk2.mono sZ, upd_same, hr2.mono sZ, LV.lb⟩
      generalize upd F6 rl (.lst rs) = F7 at g6' hb6' Z
      have lb := Z.lb
      have wf := Z.lb.wf
      clear LV hr1 hr2 hk1 hk2 hf6 hf5 hfl htl htlH g4 g5 g15 hb4 hb5 g6 hb6 sZ
      lcg_off
      refine ⟨F7, L, pl, kl, rl, ks, rs, d, rfl, hb6'.fh, Z.li, Z.pa, Z.ke, Z.kd, hb6'.fh _ _ Z.ro, Z.rd, wf, fun F8 H8 ll g8 nl8 h8 => ?_⟩
      have g9 := g8.frz h8.h h8.f nl8
      have e9 : upd F8 ll (.lst (d.lines.map wd)) ll = some (.lst (d.lines.map wd)) := upd_same
      generalize upd F8 ll (.lst (d.lines.map wd)) = F9 at g9 e9
      have hb9 := hb6'.go0 g9
      have Z9 := Z.mono g9.ff
      have g39 : Grow [b] F H3 F9 H8 := g6'.step (S' := []) g9
      have hn13 := lines_len13 wf
      have hn0 : 0 < d.lines.length := List.length_pos_iff.mpr (lines_ne d)
      have hnl : (d.lines.map wd).length = d.lines.length := List.length_map _
      have hwo : ∀ l ∈ d.lines, okT l ∧ l.length ≤ 300 := fun l hl => ⟨(lines_wo wf l hl).1, by have := (lines_wo wf l hl).2; omega⟩
      clear g8 nl8 h8 g6' hb6' Z g9
      lcg_off
      refine fk_range (n := (4 : Int).toNat) (fun j σ H10 => ∃ F10, Grow [b] F9 H8 F10 H10 ∧ Bag3 F10 H10 b ∧ ∃ u5 u6 u7 u8 u9 u10 : Option V, σ = [some (.ref sc), some (.int (i : Nat)), some (.ref b), some (.ref L), some (.ref ll), u5, u6, u7, u8, u9, u10])
        ⟨F9, Grow.refl hb9.fh, hb9, _, _, _, _, _, _, rfl⟩ ?_ ?_
      · rintro j σ H10 hj ⟨F10, g10, hb10, u5, u6, u7, u8, u9, u10, rfl⟩
        have hll10 := g10.ff _ _ e9
        have hll10H := hb10.fh _ _ hll10
        lcg_off
        refine take_ok hb10 (by rw [hnl]; omega) (by rw [hnl]; omega) fun pc H11 hpc g11 hb11 => ?_
        have hpc' : pc < d.lines.length := by rw [hnl] at hpc; omega
        have hll11H := hb11.fh _ _ hll10
        lcg_off
        refine rd_listL (sqL_of hll11H) fun sp nsp => ?_
        have g12 : Grow [] F10 H11 F10 (upd H11 sp (.lst (d.lines.map wd))) := (Grow.refl hb11.fh).newO nsp
        have h12 : Hold F10 (upd H11 sp (.lst (d.lines.map wd))) sp (.lst (d.lines.map wd)) := Hold.new hb11.fh nsp
        have spb : sp ≠ b := fun z => hb11.nn (z ▸ nsp)
        have nsp0 : H10 sp = none := g11.free nsp
        have hb12 := hb11.go0 g12
        have g1012 : Grow [b] F10 H10 F10 (upd H11 sp (.lst (d.lines.map wd))) := g11.step (S' := []) g12
        generalize upd H11 sp (.lst (d.lines.map wd)) = H12 at g12 h12 hb12 g1012
        have Z10 := Z9.mono g10.ff
        lcg_off
        refine ⟨F10, L, pl, kl, rl, ll, ks, rs, d, pc, rfl, hb12.fh, Z10, hll10, hpc', fun F13 H13 wp ws g13 e13 hW => ?_⟩
        obtain ⟨hw0, hw1⟩ := wrongs_len wf hW
        have hb13 := hb12.go0 g13
        have h13 := h12.go0 g13
        lcg_off
        refine of_words hb13 e13 hw0 hw1 fun wv H14 hwv g14 hb14 => ?_
        have h14 := h13.goB g14 spb
        lcg_off
        refine rd_setL h14.h (ixN_nat (by rw [hnl]; exact hpc')) ?_
        have g1014 : Grow [b] F10 H10 F13 (upd H14 sp (.lst ((d.lines.map wd).set pc (.str (tx wv))))) := ((g1012.step (S' := []) g13).trans g14).mut h14.f (.inr nsp0)
        have hb15 : Bag3 F13 (upd H14 sp (.lst ((d.lines.map wd).set pc (.str (tx wv))))) b := hb14.mut h14 spb
        have h15 : Hold F13 (upd H14 sp (.lst ((d.lines.map wd).set pc (.str (tx wv))))) sp (.lst ((d.lines.set pc wv).map wd)) := by
          rw [List.map_set]
          exact h14.put
        generalize upd H14 sp (.lst ((d.lines.map wd).set pc (.str (tx wv)))) = H15 at g1014 hb15 h15
        have hll15H := g1014.fh _ _ (g13.ff _ _ hll10)
        have hfit := set_fit hwo (wrongs_fit lb hW wv hwv) (p := pc)
        lcg_off
        refine take_ok hb15 (by rw [hnl]; omega) (by rw [hnl]; omega) fun sc2 H16 hsc2 g16 hb16 => ?_
        have h16 := h15.goB g16 spb
        have g1016 := g1014.trans g16
        have hll16H := hb16.fh _ _ (g13.ff _ _ hll10)
        clear g11 hb11 hll11H nsp g12 h12 hb12 g1012 hb13 h13 g14 hb14 h14 g1014 hb15 h15 g16
        lcg_off
        refine rd_cut (fun σ' H' => ∃ (F17 : Hp) (L' : List Wd), Grow [b] F10 H10 F17 H' ∧ Bag3 F17 H' b ∧ Hold F17 H' sp (.lst (L'.map wd)) ∧ (∀ l ∈ L', okT l ∧ l.length ≤ 300) ∧ L'.length = d.lines.length ∧ readAt (TL.joinL [10] L') = (min pc sc2 : Nat) ∧ σ' = [some (.ref sc), some (.int (i : Nat)), some (.ref b), some (.ref L), some (.ref ll), some (.int (j : Nat)), some (.int (pc : Nat)), some (.ref sp), some (.int (sc2 : Nat)), u9, u10]) ?_ ?_
        · lcg_off
          refine ifD (fun c1 => ?_) (fun c1 => ?_)
          · have c1' : sc2 < d.lines.length := by rw [hnl] at c1; omega
            lcg_off
            refine ⟨F13, L, pl, kl, rl, ll, ks, rs, d, sc2, rfl, hb16.fh, Z10.mono g13.ff, g13.ff _ _ hll10, c1', fun F17 H17 wp2 ws2 g17 e17 hW2 => ?_⟩
            obtain ⟨hv0, hv1⟩ := wrongs_len wf hW2
            have hb17 := hb16.go0 g17
            have h17 := h16.go0 g17
            lcg_off
            refine of_words hb17 e17 hv0 hv1 fun wv2 H18 hwv2 g18 hb18 => ?_
            have h18 := h17.goB g18 spb
            lcg_off
            refine rd_setL h18.h (ixN_nat (by rw [List.length_map, List.length_set]; exact c1')) ?_
            refine ⟨F17, (d.lines.set pc wv).set sc2 wv2, ((g1016.step (S' := []) g17).trans g18).mut h18.f (.inr nsp0), hb18.mut h18 spb, ?_, set_fit hfit (wrongs_fit lb hW2 wv2 hwv2), by rw [List.length_set, List.length_set], set_lines2 lb hW hwv hW2 hwv2 hpc' c1', rfl⟩
            rw [show ((d.lines.set pc wv).set sc2 wv2).map wd = ((d.lines.set pc wv).map wd).set sc2 (.str (tx wv2)) from List.map_set]
            exact h18.put
          · have c1' : ¬ sc2 < d.lines.length := by rw [hnl] at c1; omega
            lcg_off
            refine ⟨F13, d.lines.set pc wv, g1016, hb16, h16, hfit, by rw [List.length_set], ?_, rfl⟩
            rw [Nat.min_eq_left (by omega)]
            exact set_lines lb hW hwv hpc'
        rintro σ' H17 ⟨F17, L', g17, hb17, h17, hfit', hL', hrd, rfl⟩
        obtain ⟨j1, j2, j3⟩ := fit_join hfit' (by omega)
        have h17h := h17.h
        lcg_off
        refine rd_joinW (.inl (sqL_of h17.h)) (by simpa using j3) ?_
        lcg_off
        refine ⟨F17, _, rfl, hb17.fh, .inl ⟨_, rfl, j1, j2, fun F18 H18 g18 => ?_⟩⟩
        rw [hrd]
        lcg_off
        refine ifF (min_ne pc sc2) ?_
        lcg_off
        exact ⟨F18, g10.trans (g17.step (S' := []) g18), hb17.go0 g18, _, _, _, _, _, _, rfl⟩
      rintro σ H10 ⟨F10, g10, hb10, u5, u6, u7, u8, u9, u10, rfl⟩
      have hll10 := g10.ff _ _ e9
      have hll10H := hb10.fh _ _ hll10
      obtain ⟨tf1, tf2⟩ := text_fit wf
      have tok1 : okT (d.text ++ [10]) := okT_app tf1 (by unfold okT; decide)
      have tok2 : okT ([10] ++ d.text) := okT_app (by unfold okT; decide) tf1
      lcg_off
      refine rd_joinW (.inl (sqL_of hll10H)) (Nat.le_trans (lines_len wf) (by decide)) ?_
      rw [show TL.joinL [10] d.lines = d.text from rfl]
      lcg_off
      refine ⟨F10, _, rfl, hb10.fh, .inl ⟨d.text ++ [10], rfl, tok1, by rw [List.length_append]; simp; omega, fun F11 H11 g11 => ?_⟩⟩
      have hll11H := g11.fh _ _ (g11.ff _ _ hll10)
      rw [at_end lb]
      lcg_off
      refine ifF (by rw [hnl]; simp) ?_
      lcg_off
      refine ⟨F11, _, rfl, g11.fh, .inl ⟨[10] ++ d.text, rfl, tok2, by rw [List.length_append]; simp; omega, fun F12 H12 g12 => ?_⟩⟩
      rw [at_begin lb]
      lcg_off
      refine ifF (by simp) ?_
      lcg_off
      refine ⟨F12, _, rfl, g12.fh, .inl ⟨d.text, rfl, tf1, by omega, fun F13 H13 g13 => ?_⟩⟩
      rw [at_text lb]
      lcg_off
      refine ifF (by simp) ?_
      have g1013 := g11.trans (g12.trans g13)
      have hll13 := g1013.ff _ _ hll10
      clear g11 g12 g13 hll11H hll10H
      have hll13H := g1013.fh _ _ hll13
      lcg_off
      refine newL g1013.fh fun F14 H14 q1 g14 _ f1 => ?_
      lcg_off
      refine newT g14.fh fun F15 H15 q2 g15 _ f2 => ?_
      have g1315 := g14.trans g15
      have hll15H := g1315.fh _ _ (g1315.ff _ _ hll13)
      lcg_off
      refine new_tup g15.fh (sqL_of hll15H) fun F16 H16 q3 g16 _ f3 => ?_
      lcg_off
      refine newL g16.fh fun F17 H17 q4 g17 _ f4 => ?_
      lcg_off
      refine newT g17.fh fun F18 H18 q5 g18 _ f5 => ?_
      lcg_off
      refine newL g18.fh fun F19 H19 qo g19 _ f6 => ?_
      have s18 := g19.ff
      have s17 := g18.ff.trans s18
      have s16 := g17.ff.trans s17
      have s15 := g16.ff.trans s16
      have s14 := g15.ff.trans s15
      have s13 := g14.ff.trans s14
      have g1319 := g1315.trans (g16.trans (g17.trans (g18.trans g19)))
      have hth : ∀ (q : Nat) (x : V), [V.non, .int 5, .bl true, .ref q1, .ref q2, .ref ll, .ref q3, .ref q4, .ref q5][q]? = some x → ∀ H, Same F19 H → NotStr K H x := by
        intro q x hx H sH
        match q, hx with
        | 0, hx => cases hx; exact ⟨_, .base .non, kit_NoneType_str⟩
        | 1, hx => cases hx; exact ⟨_, .base (.int _), kit_int_str⟩
        | 2, hx => cases hx; exact ⟨_, .base (.bl _), kit_bool_str⟩
        | 3, hx => cases hx; exact ⟨_, .base (.lst (sH _ _ (s14 _ _ f1))), kit_list_str⟩
        | 4, hx => cases hx; exact ⟨_, .base (.tup (sH _ _ (s15 _ _ f2))), kit_tuple_str⟩
        | 5, hx => cases hx; exact ⟨_, .base (.lst (sH _ _ (s13 _ _ hll13))), kit_list_str⟩
        | 6, hx => cases hx; exact ⟨_, .base (.tup (sH _ _ (s16 _ _ f3))), kit_tuple_str⟩
        | 7, hx => cases hx; exact ⟨_, .base (.lst (sH _ _ (s17 _ _ f4))), kit_list_str⟩
        | 8, hx => cases hx; exact ⟨_, .base (.tup (sH _ _ (s18 _ _ f5))), kit_tuple_str⟩
        | q + 9, hx => simp at hx
      have f6H := g19.fh _ _ f6
      have g1019 := g1013.trans g1319
      clear s18 s17 s16 s15 s14 s13 f1 f2 f3 f4 f5 g1315 g1013 g14 g15 g16 g17 g18 g19 hll15H hll13H
      lcg_off
      refine fk_list (xs := [V.non, .int 5, .bl true, .ref q1, .ref q2, .ref ll, .ref q3, .ref q4, .ref q5]) (fun q σ H20 => ∃ F20, Grow [] F19 H19 F20 H20 ∧ F20 qo = some (.lst [V.non, .int 5, .bl true, .ref q1, .ref q2, .ref ll, .ref q3, .ref q4, .ref q5]) ∧ ∃ u10 : Option V, σ = [some (.ref sc), some (.int (i : Nat)), some (.ref b), some (.ref L), some (.ref ll), u5, u6, u7, u8, some (.str (tx d.text)), u10])
        ⟨F19, Grow.refl g1319.fh, f6, _, rfl⟩ (fun q σ H20 _ ⟨F20, g20, z, _⟩ => sqL_of (g20.fh _ _ z)) ?_ ?_
      · rintro q x σ H20 hx ⟨F20, g20, z20, u10', rfl⟩
        lcg_off
        refine ⟨F20, x, rfl, g20.fh, .inr ⟨hth q x hx H20 (g20.ff.trans g20.fh), fun F21 H21 g21 => ?_⟩⟩
        lcg_off
        refine ifF (by simp) ?_
        lcg_off
        exact ⟨F21, g20.trans g21, g21.ff _ _ z20, _, rfl⟩
      rintro σ H20 ⟨F20, g20, -, u10', rfl⟩
      lcg_off
      refine ⟨F20, _, rfl, g20.fh, .inl ⟨[], rfl, okT_nil, by simp, fun F21 H21 g21 => ?_⟩⟩
      rw [at_none]
      lcg_off
      refine ifF (by simp) ?_
      lcg_off
      refine ⟨F21, _, rfl, g21.fh, .inl ⟨d.text, rfl, tf1, by omega, fun d' hd' F22 H22 p22 g22 hlib => ?_, fun n hn => (by have := read_lib lb; unfold Draft.text at hn; rw [this] at hn; cases hn)⟩⟩
      have : d' = d := by
        have h2 := read_lib lb
        have hd' : readL (TL.joinL [10] d.lines) = .ok d' := hd'
        rw [h2] at hd'
        cases hd'
        rfl
      subst this
      lcg_off
      refine ask_str g22.fh hlib ?_
      lcg_off
      refine ifF (by simp) ?_
      lcg_off
      have gz := (g39.trans g10).trans ((g1019.weak).trans ((g20.weak).trans ((g21.weak).trans (g22.weak))))
      exact ⟨s2.trans (sF.trans (gz.ff.trans gz.fh)), _, _, _, _, _, _, _, _, _, _, rfl⟩
    · rintro σ H2 ⟨s2, w1, w2, w3, w4, w5, w6, w7, w8, w9, w10, rfl⟩
      lcg_off
      exact k H2
end
end Lb

section
open PySem PySem.W PyProof.Rows
set_option maxHeartbeats 0 in
open_top hd for PySem.Challenge.rw_heirsback_k02_libraries_refused
end
namespace Lb
open PySem L2 Hk
theorem all_mk {l : PySem.W.OpenLaw} {w : World} {K : PySem.W.Frag} {h : Heap} {mg : Str → Option Value} {fa : Addr} (X : K.In h) (G : h.Ns mainGlobals mg) (hfa : mg "law" = some (.ref fa))
    {f_BadLibrary_init : Addr} {od_BadLibrary_init an_BadLibrary_init : Option Addr} {sl_BadLibrary_init : Array (Option Value)} {oc_BadLibrary_init kV_BadLibrary_init dc_BadLibrary_init pm_BadLibrary_init cd_BadLibrary_init ct_BadLibrary_init : Value}
    {f_is_word : Addr} {od_is_word an_is_word : Option Addr} {sl_is_word : Array (Option Value)} {oc_is_word kV_is_word dc_is_word pm_is_word cd_is_word ct_is_word : Value}
    {f_is_class_name : Addr} {od_is_class_name an_is_class_name : Option Addr} {sl_is_class_name : Array (Option Value)} {oc_is_class_name kV_is_class_name dc_is_class_name pm_is_class_name cd_is_class_name ct_is_class_name : Value}
    {f_is_field_name : Addr} {od_is_field_name an_is_field_name : Option Addr} {sl_is_field_name : Array (Option Value)} {oc_is_field_name kV_is_field_name dc_is_field_name pm_is_field_name cd_is_field_name ct_is_field_name : Value}
    {f_arity_of : Addr} {od_arity_of an_arity_of : Option Addr} {sl_arity_of : Array (Option Value)} {oc_arity_of kV_arity_of dc_arity_of pm_arity_of cd_arity_of ct_arity_of : Value}
    {f_makers_for : Addr} {od_makers_for an_makers_for : Option Addr} {sl_makers_for : Array (Option Value)} {oc_makers_for kV_makers_for dc_makers_for pm_makers_for cd_makers_for ct_makers_for : Value}
    {f_LibraryDraft_init : Addr} {od_LibraryDraft_init an_LibraryDraft_init : Option Addr} {sl_LibraryDraft_init : Array (Option Value)} {oc_LibraryDraft_init kV_LibraryDraft_init dc_LibraryDraft_init pm_LibraryDraft_init cd_LibraryDraft_init ct_LibraryDraft_init : Value}
    {f_LibraryDraft_takes_line : Addr} {od_LibraryDraft_takes_line an_LibraryDraft_takes_line : Option Addr} {sl_LibraryDraft_takes_line : Array (Option Value)} {oc_LibraryDraft_takes_line kV_LibraryDraft_takes_line dc_LibraryDraft_takes_line pm_LibraryDraft_takes_line cd_LibraryDraft_takes_line ct_LibraryDraft_takes_line : Value}
    {f_LibraryDraft_takes_name : Addr} {od_LibraryDraft_takes_name an_LibraryDraft_takes_name : Option Addr} {sl_LibraryDraft_takes_name : Array (Option Value)} {oc_LibraryDraft_takes_name kV_LibraryDraft_takes_name dc_LibraryDraft_takes_name pm_LibraryDraft_takes_name cd_LibraryDraft_takes_name ct_LibraryDraft_takes_name : Value}
    {f_LibraryDraft_is_new : Addr} {od_LibraryDraft_is_new an_LibraryDraft_is_new : Option Addr} {sl_LibraryDraft_is_new : Array (Option Value)} {oc_LibraryDraft_is_new kV_LibraryDraft_is_new dc_LibraryDraft_is_new pm_LibraryDraft_is_new cd_LibraryDraft_is_new ct_LibraryDraft_is_new : Value}
    {f_LibraryDraft_takes_needs : Addr} {od_LibraryDraft_takes_needs an_LibraryDraft_takes_needs : Option Addr} {sl_LibraryDraft_takes_needs : Array (Option Value)} {oc_LibraryDraft_takes_needs kV_LibraryDraft_takes_needs dc_LibraryDraft_takes_needs pm_LibraryDraft_takes_needs cd_LibraryDraft_takes_needs ct_LibraryDraft_takes_needs : Value}
    {f_LibraryDraft_takes_keeps : Addr} {od_LibraryDraft_takes_keeps an_LibraryDraft_takes_keeps : Option Addr} {sl_LibraryDraft_takes_keeps : Array (Option Value)} {oc_LibraryDraft_takes_keeps kV_LibraryDraft_takes_keeps dc_LibraryDraft_takes_keeps pm_LibraryDraft_takes_keeps cd_LibraryDraft_takes_keeps ct_LibraryDraft_takes_keeps : Value}
    {f_LibraryDraft_takes_hook : Addr} {od_LibraryDraft_takes_hook an_LibraryDraft_takes_hook : Option Addr} {sl_LibraryDraft_takes_hook : Array (Option Value)} {oc_LibraryDraft_takes_hook kV_LibraryDraft_takes_hook dc_LibraryDraft_takes_hook pm_LibraryDraft_takes_hook cd_LibraryDraft_takes_hook ct_LibraryDraft_takes_hook : Value}
    {f_LibraryDraft_takes_request : Addr} {od_LibraryDraft_takes_request an_LibraryDraft_takes_request : Option Addr} {sl_LibraryDraft_takes_request : Array (Option Value)} {oc_LibraryDraft_takes_request kV_LibraryDraft_takes_request dc_LibraryDraft_takes_request pm_LibraryDraft_takes_request cd_LibraryDraft_takes_request ct_LibraryDraft_takes_request : Value}
    {f_LibraryDraft_takes_operation : Addr} {od_LibraryDraft_takes_operation an_LibraryDraft_takes_operation : Option Addr} {sl_LibraryDraft_takes_operation : Array (Option Value)} {oc_LibraryDraft_takes_operation kV_LibraryDraft_takes_operation dc_LibraryDraft_takes_operation pm_LibraryDraft_takes_operation cd_LibraryDraft_takes_operation ct_LibraryDraft_takes_operation : Value}
    {f_LibraryDraft_takes_row : Addr} {od_LibraryDraft_takes_row an_LibraryDraft_takes_row : Option Addr} {sl_LibraryDraft_takes_row : Array (Option Value)} {oc_LibraryDraft_takes_row kV_LibraryDraft_takes_row dc_LibraryDraft_takes_row pm_LibraryDraft_takes_row cd_LibraryDraft_takes_row ct_LibraryDraft_takes_row : Value}
    {f_Library_init : Addr} {od_Library_init an_Library_init : Option Addr} {sl_Library_init : Array (Option Value)} {oc_Library_init kV_Library_init dc_Library_init pm_Library_init cd_Library_init ct_Library_init : Value}
    {f_Library_text_lines : Addr} {od_Library_text_lines an_Library_text_lines : Option Addr} {sl_Library_text_lines : Array (Option Value)} {oc_Library_text_lines kV_Library_text_lines dc_Library_text_lines pm_Library_text_lines cd_Library_text_lines ct_Library_text_lines : Value}
    {f_Library_read : Addr} {od_Library_read an_Library_read : Option Addr} {sl_Library_read : Array (Option Value)} {oc_Library_read kV_Library_read dc_Library_read pm_Library_read cd_Library_read ct_Library_read : Value}
    {p_Library_read : Addr} {r_Library_read : List Value}
    {f_Library_str : Addr} {od_Library_str an_Library_str : Option Addr} {sl_Library_str : Array (Option Value)} {oc_Library_str kV_Library_str dc_Library_str pm_Library_str cd_Library_str ct_Library_str : Value}
    {f_law_bag : Addr} {od_law_bag an_law_bag : Option Addr} {sl_law_bag : Array (Option Value)} {oc_law_bag kV_law_bag dc_law_bag pm_law_bag cd_law_bag ct_law_bag : Value}
    {f_law_take : Addr} {od_law_take an_law_take : Option Addr} {sl_law_take : Array (Option Value)} {oc_law_take kV_law_take dc_law_take pm_law_take cd_law_take ct_law_take : Value}
    {f_law_of : Addr} {od_law_of an_law_of : Option Addr} {sl_law_of : Array (Option Value)} {oc_law_of kV_law_of dc_law_of pm_law_of cd_law_of ct_law_of : Value}
    {f_law_words : Addr} {od_law_words an_law_words : Option Addr} {sl_law_words : Array (Option Value)} {oc_law_words kV_law_words dc_law_words pm_law_words cd_law_words ct_law_words : Value}
    {f_law_titles : Addr} {od_law_titles an_law_titles : Option Addr} {sl_law_titles : Array (Option Value)} {oc_law_titles kV_law_titles dc_law_titles pm_law_titles cd_law_titles ct_law_titles : Value}
    {f_law_makers : Addr} {od_law_makers an_law_makers : Option Addr} {sl_law_makers : Array (Option Value)} {oc_law_makers kV_law_makers dc_law_makers pm_law_makers cd_law_makers ct_law_makers : Value}
    {f_law_library : Addr} {od_law_library an_law_library : Option Addr} {sl_law_library : Array (Option Value)} {oc_law_library kV_law_library dc_law_library pm_law_library cd_law_library ct_law_library : Value}
    {f_law_lines : Addr} {od_law_lines an_law_lines : Option Addr} {sl_law_lines : Array (Option Value)} {oc_law_lines kV_law_lines dc_law_lines pm_law_lines cd_law_lines ct_law_lines : Value}
    {f_law_wrong_fields : Addr} {od_law_wrong_fields an_law_wrong_fields : Option Addr} {sl_law_wrong_fields : Array (Option Value)} {oc_law_wrong_fields kV_law_wrong_fields dc_law_wrong_fields pm_law_wrong_fields cd_law_wrong_fields ct_law_wrong_fields : Value}
    {f_law_wrong_operations : Addr} {od_law_wrong_operations an_law_wrong_operations : Option Addr} {sl_law_wrong_operations : Array (Option Value)} {oc_law_wrong_operations kV_law_wrong_operations dc_law_wrong_operations pm_law_wrong_operations cd_law_wrong_operations ct_law_wrong_operations : Value}
    {f_law_wrong : Addr} {od_law_wrong an_law_wrong : Option Addr} {sl_law_wrong : Array (Option Value)} {oc_law_wrong kV_law_wrong dc_law_wrong pm_law_wrong cd_law_wrong ct_law_wrong : Value}
    {f_law_at : Addr} {od_law_at an_law_at : Option Addr} {sl_law_at : Array (Option Value)} {oc_law_at kV_law_at dc_law_at pm_law_at cd_law_at ct_law_at : Value}
    {f_law : Addr} {od_law an_law : Option Addr} {sl_law : Array (Option Value)} {oc_law kV_law dc_law pm_law cd_law ct_law : Value}
    {C_LibraryDraft : Addr}
    {C_Library : Addr}
    {C_BadLibrary : Addr}
    {nm_BadLibrary q_BadLibrary : Str} {N_BadLibrary : Addr} {bs_BadLibrary bm_BadLibrary : List Value} {sn_BadLibrary : List Str} {sub_BadLibrary : List Value} {ab_BadLibrary : Bool} {col_BadLibrary : Option Bool} {dd_BadLibrary : Option Addr} {k0_BadLibrary k1_BadLibrary k2_BadLibrary k3_BadLibrary k5_BadLibrary : Option Value}
    {C_BadWorld : Addr}
    {C_HeirsbackError : Addr}
    {t_CAPITALS : Tok}
    {t_LETTERS : Tok}
    {ad_BINARY_SIGNS : Addr} {od_BINARY_SIGNS : Option Addr} {n_BINARY_SIGNS : Nat} {sl_BINARY_SIGNS : Array (Option Value)} {t0_BINARY_SIGNS : Tok} {t1_BINARY_SIGNS : Tok} {t2_BINARY_SIGNS : Tok} {t3_BINARY_SIGNS : Tok} {t4_BINARY_SIGNS : Tok} {t5_BINARY_SIGNS : Tok} {t6_BINARY_SIGNS : Tok} {t7_BINARY_SIGNS : Tok} {t8_BINARY_SIGNS : Tok}
    {ad_UNARY_SIGNS : Addr} {od_UNARY_SIGNS : Option Addr} {n_UNARY_SIGNS : Nat} {sl_UNARY_SIGNS : Array (Option Value)} {t0_UNARY_SIGNS : Tok} {t1_UNARY_SIGNS : Tok} {t2_UNARY_SIGNS : Tok} {t3_UNARY_SIGNS : Tok}
    {ad_BARRED : Addr} {od_BARRED : Option Addr} {n_BARRED : Nat} {sl_BARRED : Array (Option Value)} {t0_BARRED : Tok} {t1_BARRED : Tok} {t2_BARRED : Tok} {t3_BARRED : Tok} {t4_BARRED : Tok} {t5_BARRED : Tok}
    {ad_HOOKS : Addr} {od_HOOKS : Option Addr} {n_HOOKS : Nat} {sl_HOOKS : Array (Option Value)} {t0_HOOKS : Tok} {t1_HOOKS : Tok} {t2_HOOKS : Tok} {t3_HOOKS : Tok} {t4_HOOKS : Tok}
    {t_MOST_LETTERS : Tok}
    {t_MOST_PARAMETERS : Tok}
    {t_MOST_KEPT : Tok}
    {t_MOST_OPERATIONS : Tok}
    {ad_MAKERS : Addr} {n_MAKERS : Nat} {k0_MAKERS : Tok} {k1_MAKERS : Tok} {k2_MAKERS : Tok}
    {ad_MAKERS_0 : Addr} {od_MAKERS_0 : Option Addr} {n_MAKERS_0 : Nat} {sl_MAKERS_0 : Array (Option Value)} {t0_MAKERS_0 : Tok} {t1_MAKERS_0 : Tok} {t2_MAKERS_0 : Tok} {t3_MAKERS_0 : Tok}
    {ad_MAKERS_1 : Addr} {od_MAKERS_1 : Option Addr} {n_MAKERS_1 : Nat} {sl_MAKERS_1 : Array (Option Value)} {t0_MAKERS_1 : Tok} {t1_MAKERS_1 : Tok} {t2_MAKERS_1 : Tok} {t3_MAKERS_1 : Tok} {t4_MAKERS_1 : Tok} {t5_MAKERS_1 : Tok} {t6_MAKERS_1 : Tok}
    {ad_MAKERS_2 : Addr} {od_MAKERS_2 : Option Addr} {n_MAKERS_2 : Nat} {sl_MAKERS_2 : Array (Option Value)} {t0_MAKERS_2 : Tok} {t1_MAKERS_2 : Tok} {t2_MAKERS_2 : Tok} {t3_MAKERS_2 : Tok} {t4_MAKERS_2 : Tok} {t5_MAKERS_2 : Tok} {t6_MAKERS_2 : Tok} {t7_MAKERS_2 : Tok} {t8_MAKERS_2 : Tok} {t9_MAKERS_2 : Tok} {t10_MAKERS_2 : Tok} {t11_MAKERS_2 : Tok} {t12_MAKERS_2 : Tok} {t13_MAKERS_2 : Tok} {t14_MAKERS_2 : Tok} {t15_MAKERS_2 : Tok} {t16_MAKERS_2 : Tok}
    (a_C_LibraryDraft : PySem.W.nsIn K mainGlobals "LibraryDraft" = some (some (.ref C_LibraryDraft)))
    (a_C_Library : PySem.W.nsIn K mainGlobals "Library" = some (some (.ref C_Library)))
    (a_C_BadLibrary : PySem.W.nsIn K mainGlobals "BadLibrary" = some (some (.ref C_BadLibrary)))
    (a_C_BadWorld : PySem.W.nsIn K mainGlobals "BadWorld" = some (some (.ref C_BadWorld)))
    (a_C_HeirsbackError : PySem.W.nsIn K mainGlobals "HeirsbackError" = some (some (.ref C_HeirsbackError)))
    (a_BadLibrary_init : PySem.W.findIn K (.ref C_BadLibrary) "__init__" = some (some (.ref f_BadLibrary_init)))
    (i_BadLibrary_init : PySem.W.isFn K (.ref f_BadLibrary_init) = true)
    (l_BadLibrary_init : K.lookup f_BadLibrary_init = some ⟨oc_BadLibrary_init, od_BadLibrary_init, .func (PySem.W.fnOf "__init__" "BadLibrary.__init__" (defArgs s_BadLibrary_init) (defBody s_BadLibrary_init) (defScope s_BadLibrary_init) .none kV_BadLibrary_init dc_BadLibrary_init pm_BadLibrary_init an_BadLibrary_init cd_BadLibrary_init ct_BadLibrary_init), sl_BadLibrary_init⟩)
    (c_BadLibrary_init : PySem.W.codeIn K cd_BadLibrary_init "BadLibrary.__init__" = true)
    (k_BadLibrary_init : PySem.W.keepIn K (.ref f_BadLibrary_init) = true)
    (a_is_word : PySem.W.nsIn K mainGlobals "is_word" = some (some (.ref f_is_word)))
    (l_is_word : K.lookup f_is_word = some ⟨oc_is_word, od_is_word, .func (PySem.W.fnOf "is_word" "is_word" (defArgs s_is_word) (defBody s_is_word) (defScope s_is_word) .none kV_is_word dc_is_word pm_is_word an_is_word cd_is_word ct_is_word), sl_is_word⟩)
    (c_is_word : PySem.W.codeIn K cd_is_word "is_word" = true)
    (k_is_word : PySem.W.keepIn K (.ref f_is_word) = true)
    (a_is_class_name : PySem.W.nsIn K mainGlobals "is_class_name" = some (some (.ref f_is_class_name)))
    (l_is_class_name : K.lookup f_is_class_name = some ⟨oc_is_class_name, od_is_class_name, .func (PySem.W.fnOf "is_class_name" "is_class_name" (defArgs s_is_class_name) (defBody s_is_class_name) (defScope s_is_class_name) .none kV_is_class_name dc_is_class_name pm_is_class_name an_is_class_name cd_is_class_name ct_is_class_name), sl_is_class_name⟩)
    (c_is_class_name : PySem.W.codeIn K cd_is_class_name "is_class_name" = true)
    (k_is_class_name : PySem.W.keepIn K (.ref f_is_class_name) = true)
    (a_is_field_name : PySem.W.nsIn K mainGlobals "is_field_name" = some (some (.ref f_is_field_name)))
    (l_is_field_name : K.lookup f_is_field_name = some ⟨oc_is_field_name, od_is_field_name, .func (PySem.W.fnOf "is_field_name" "is_field_name" (defArgs s_is_field_name) (defBody s_is_field_name) (defScope s_is_field_name) .none kV_is_field_name dc_is_field_name pm_is_field_name an_is_field_name cd_is_field_name ct_is_field_name), sl_is_field_name⟩)
    (c_is_field_name : PySem.W.codeIn K cd_is_field_name "is_field_name" = true)
    (k_is_field_name : PySem.W.keepIn K (.ref f_is_field_name) = true)
    (a_arity_of : PySem.W.nsIn K mainGlobals "arity_of" = some (some (.ref f_arity_of)))
    (l_arity_of : K.lookup f_arity_of = some ⟨oc_arity_of, od_arity_of, .func (PySem.W.fnOf "arity_of" "arity_of" (defArgs s_arity_of) (defBody s_arity_of) (defScope s_arity_of) .none kV_arity_of dc_arity_of pm_arity_of an_arity_of cd_arity_of ct_arity_of), sl_arity_of⟩)
    (c_arity_of : PySem.W.codeIn K cd_arity_of "arity_of" = true)
    (k_arity_of : PySem.W.keepIn K (.ref f_arity_of) = true)
    (a_makers_for : PySem.W.nsIn K mainGlobals "makers_for" = some (some (.ref f_makers_for)))
    (l_makers_for : K.lookup f_makers_for = some ⟨oc_makers_for, od_makers_for, .func (PySem.W.fnOf "makers_for" "makers_for" (defArgs s_makers_for) (defBody s_makers_for) (defScope s_makers_for) .none kV_makers_for dc_makers_for pm_makers_for an_makers_for cd_makers_for ct_makers_for), sl_makers_for⟩)
    (c_makers_for : PySem.W.codeIn K cd_makers_for "makers_for" = true)
    (k_makers_for : PySem.W.keepIn K (.ref f_makers_for) = true)
    (a_LibraryDraft_init : PySem.W.findIn K (.ref C_LibraryDraft) "__init__" = some (some (.ref f_LibraryDraft_init)))
    (i_LibraryDraft_init : PySem.W.isFn K (.ref f_LibraryDraft_init) = true)
    (l_LibraryDraft_init : K.lookup f_LibraryDraft_init = some ⟨oc_LibraryDraft_init, od_LibraryDraft_init, .func (PySem.W.fnOf "__init__" "LibraryDraft.__init__" (defArgs s_LibraryDraft_init) (defBody s_LibraryDraft_init) (defScope s_LibraryDraft_init) .none kV_LibraryDraft_init dc_LibraryDraft_init pm_LibraryDraft_init an_LibraryDraft_init cd_LibraryDraft_init ct_LibraryDraft_init), sl_LibraryDraft_init⟩)
    (c_LibraryDraft_init : PySem.W.codeIn K cd_LibraryDraft_init "LibraryDraft.__init__" = true)
    (k_LibraryDraft_init : PySem.W.keepIn K (.ref f_LibraryDraft_init) = true)
    (a_LibraryDraft_takes_line : PySem.W.findIn K (.ref C_LibraryDraft) "takes_line" = some (some (.ref f_LibraryDraft_takes_line)))
    (i_LibraryDraft_takes_line : PySem.W.isFn K (.ref f_LibraryDraft_takes_line) = true)
    (l_LibraryDraft_takes_line : K.lookup f_LibraryDraft_takes_line = some ⟨oc_LibraryDraft_takes_line, od_LibraryDraft_takes_line, .func (PySem.W.fnOf "takes_line" "LibraryDraft.takes_line" (defArgs s_LibraryDraft_takes_line) (defBody s_LibraryDraft_takes_line) (defScope s_LibraryDraft_takes_line) .none kV_LibraryDraft_takes_line dc_LibraryDraft_takes_line pm_LibraryDraft_takes_line an_LibraryDraft_takes_line cd_LibraryDraft_takes_line ct_LibraryDraft_takes_line), sl_LibraryDraft_takes_line⟩)
    (c_LibraryDraft_takes_line : PySem.W.codeIn K cd_LibraryDraft_takes_line "LibraryDraft.takes_line" = true)
    (k_LibraryDraft_takes_line : PySem.W.keepIn K (.ref f_LibraryDraft_takes_line) = true)
    (a_LibraryDraft_takes_name : PySem.W.findIn K (.ref C_LibraryDraft) "takes_name" = some (some (.ref f_LibraryDraft_takes_name)))
    (i_LibraryDraft_takes_name : PySem.W.isFn K (.ref f_LibraryDraft_takes_name) = true)
    (l_LibraryDraft_takes_name : K.lookup f_LibraryDraft_takes_name = some ⟨oc_LibraryDraft_takes_name, od_LibraryDraft_takes_name, .func (PySem.W.fnOf "takes_name" "LibraryDraft.takes_name" (defArgs s_LibraryDraft_takes_name) (defBody s_LibraryDraft_takes_name) (defScope s_LibraryDraft_takes_name) .none kV_LibraryDraft_takes_name dc_LibraryDraft_takes_name pm_LibraryDraft_takes_name an_LibraryDraft_takes_name cd_LibraryDraft_takes_name ct_LibraryDraft_takes_name), sl_LibraryDraft_takes_name⟩)
    (c_LibraryDraft_takes_name : PySem.W.codeIn K cd_LibraryDraft_takes_name "LibraryDraft.takes_name" = true)
    (k_LibraryDraft_takes_name : PySem.W.keepIn K (.ref f_LibraryDraft_takes_name) = true)
    (a_LibraryDraft_is_new : PySem.W.findIn K (.ref C_LibraryDraft) "is_new" = some (some (.ref f_LibraryDraft_is_new)))
    (i_LibraryDraft_is_new : PySem.W.isFn K (.ref f_LibraryDraft_is_new) = true)
    (l_LibraryDraft_is_new : K.lookup f_LibraryDraft_is_new = some ⟨oc_LibraryDraft_is_new, od_LibraryDraft_is_new, .func (PySem.W.fnOf "is_new" "LibraryDraft.is_new" (defArgs s_LibraryDraft_is_new) (defBody s_LibraryDraft_is_new) (defScope s_LibraryDraft_is_new) .none kV_LibraryDraft_is_new dc_LibraryDraft_is_new pm_LibraryDraft_is_new an_LibraryDraft_is_new cd_LibraryDraft_is_new ct_LibraryDraft_is_new), sl_LibraryDraft_is_new⟩)
    (c_LibraryDraft_is_new : PySem.W.codeIn K cd_LibraryDraft_is_new "LibraryDraft.is_new" = true)
    (k_LibraryDraft_is_new : PySem.W.keepIn K (.ref f_LibraryDraft_is_new) = true)
    (a_LibraryDraft_takes_needs : PySem.W.findIn K (.ref C_LibraryDraft) "takes_needs" = some (some (.ref f_LibraryDraft_takes_needs)))
    (i_LibraryDraft_takes_needs : PySem.W.isFn K (.ref f_LibraryDraft_takes_needs) = true)
    (l_LibraryDraft_takes_needs : K.lookup f_LibraryDraft_takes_needs = some ⟨oc_LibraryDraft_takes_needs, od_LibraryDraft_takes_needs, .func (PySem.W.fnOf "takes_needs" "LibraryDraft.takes_needs" (defArgs s_LibraryDraft_takes_needs) (defBody s_LibraryDraft_takes_needs) (defScope s_LibraryDraft_takes_needs) .none kV_LibraryDraft_takes_needs dc_LibraryDraft_takes_needs pm_LibraryDraft_takes_needs an_LibraryDraft_takes_needs cd_LibraryDraft_takes_needs ct_LibraryDraft_takes_needs), sl_LibraryDraft_takes_needs⟩)
    (c_LibraryDraft_takes_needs : PySem.W.codeIn K cd_LibraryDraft_takes_needs "LibraryDraft.takes_needs" = true)
    (k_LibraryDraft_takes_needs : PySem.W.keepIn K (.ref f_LibraryDraft_takes_needs) = true)
    (a_LibraryDraft_takes_keeps : PySem.W.findIn K (.ref C_LibraryDraft) "takes_keeps" = some (some (.ref f_LibraryDraft_takes_keeps)))
    (i_LibraryDraft_takes_keeps : PySem.W.isFn K (.ref f_LibraryDraft_takes_keeps) = true)
    (l_LibraryDraft_takes_keeps : K.lookup f_LibraryDraft_takes_keeps = some ⟨oc_LibraryDraft_takes_keeps, od_LibraryDraft_takes_keeps, .func (PySem.W.fnOf "takes_keeps" "LibraryDraft.takes_keeps" (defArgs s_LibraryDraft_takes_keeps) (defBody s_LibraryDraft_takes_keeps) (defScope s_LibraryDraft_takes_keeps) .none kV_LibraryDraft_takes_keeps dc_LibraryDraft_takes_keeps pm_LibraryDraft_takes_keeps an_LibraryDraft_takes_keeps cd_LibraryDraft_takes_keeps ct_LibraryDraft_takes_keeps), sl_LibraryDraft_takes_keeps⟩)
    (c_LibraryDraft_takes_keeps : PySem.W.codeIn K cd_LibraryDraft_takes_keeps "LibraryDraft.takes_keeps" = true)
    (k_LibraryDraft_takes_keeps : PySem.W.keepIn K (.ref f_LibraryDraft_takes_keeps) = true)
    (a_LibraryDraft_takes_hook : PySem.W.findIn K (.ref C_LibraryDraft) "takes_hook" = some (some (.ref f_LibraryDraft_takes_hook)))
    (i_LibraryDraft_takes_hook : PySem.W.isFn K (.ref f_LibraryDraft_takes_hook) = true)
    (l_LibraryDraft_takes_hook : K.lookup f_LibraryDraft_takes_hook = some ⟨oc_LibraryDraft_takes_hook, od_LibraryDraft_takes_hook, .func (PySem.W.fnOf "takes_hook" "LibraryDraft.takes_hook" (defArgs s_LibraryDraft_takes_hook) (defBody s_LibraryDraft_takes_hook) (defScope s_LibraryDraft_takes_hook) .none kV_LibraryDraft_takes_hook dc_LibraryDraft_takes_hook pm_LibraryDraft_takes_hook an_LibraryDraft_takes_hook cd_LibraryDraft_takes_hook ct_LibraryDraft_takes_hook), sl_LibraryDraft_takes_hook⟩)
    (c_LibraryDraft_takes_hook : PySem.W.codeIn K cd_LibraryDraft_takes_hook "LibraryDraft.takes_hook" = true)
    (k_LibraryDraft_takes_hook : PySem.W.keepIn K (.ref f_LibraryDraft_takes_hook) = true)
    (a_LibraryDraft_takes_request : PySem.W.findIn K (.ref C_LibraryDraft) "takes_request" = some (some (.ref f_LibraryDraft_takes_request)))
    (i_LibraryDraft_takes_request : PySem.W.isFn K (.ref f_LibraryDraft_takes_request) = true)
    (l_LibraryDraft_takes_request : K.lookup f_LibraryDraft_takes_request = some ⟨oc_LibraryDraft_takes_request, od_LibraryDraft_takes_request, .func (PySem.W.fnOf "takes_request" "LibraryDraft.takes_request" (defArgs s_LibraryDraft_takes_request) (defBody s_LibraryDraft_takes_request) (defScope s_LibraryDraft_takes_request) .none kV_LibraryDraft_takes_request dc_LibraryDraft_takes_request pm_LibraryDraft_takes_request an_LibraryDraft_takes_request cd_LibraryDraft_takes_request ct_LibraryDraft_takes_request), sl_LibraryDraft_takes_request⟩)
    (c_LibraryDraft_takes_request : PySem.W.codeIn K cd_LibraryDraft_takes_request "LibraryDraft.takes_request" = true)
    (k_LibraryDraft_takes_request : PySem.W.keepIn K (.ref f_LibraryDraft_takes_request) = true)
    (a_LibraryDraft_takes_operation : PySem.W.findIn K (.ref C_LibraryDraft) "takes_operation" = some (some (.ref f_LibraryDraft_takes_operation)))
    (i_LibraryDraft_takes_operation : PySem.W.isFn K (.ref f_LibraryDraft_takes_operation) = true)
    (l_LibraryDraft_takes_operation : K.lookup f_LibraryDraft_takes_operation = some ⟨oc_LibraryDraft_takes_operation, od_LibraryDraft_takes_operation, .func (PySem.W.fnOf "takes_operation" "LibraryDraft.takes_operation" (defArgs s_LibraryDraft_takes_operation) (defBody s_LibraryDraft_takes_operation) (defScope s_LibraryDraft_takes_operation) .none kV_LibraryDraft_takes_operation dc_LibraryDraft_takes_operation pm_LibraryDraft_takes_operation an_LibraryDraft_takes_operation cd_LibraryDraft_takes_operation ct_LibraryDraft_takes_operation), sl_LibraryDraft_takes_operation⟩)
    (c_LibraryDraft_takes_operation : PySem.W.codeIn K cd_LibraryDraft_takes_operation "LibraryDraft.takes_operation" = true)
    (k_LibraryDraft_takes_operation : PySem.W.keepIn K (.ref f_LibraryDraft_takes_operation) = true)
    (a_LibraryDraft_takes_row : PySem.W.findIn K (.ref C_LibraryDraft) "takes_row" = some (some (.ref f_LibraryDraft_takes_row)))
    (i_LibraryDraft_takes_row : PySem.W.isFn K (.ref f_LibraryDraft_takes_row) = true)
    (l_LibraryDraft_takes_row : K.lookup f_LibraryDraft_takes_row = some ⟨oc_LibraryDraft_takes_row, od_LibraryDraft_takes_row, .func (PySem.W.fnOf "takes_row" "LibraryDraft.takes_row" (defArgs s_LibraryDraft_takes_row) (defBody s_LibraryDraft_takes_row) (defScope s_LibraryDraft_takes_row) .none kV_LibraryDraft_takes_row dc_LibraryDraft_takes_row pm_LibraryDraft_takes_row an_LibraryDraft_takes_row cd_LibraryDraft_takes_row ct_LibraryDraft_takes_row), sl_LibraryDraft_takes_row⟩)
    (c_LibraryDraft_takes_row : PySem.W.codeIn K cd_LibraryDraft_takes_row "LibraryDraft.takes_row" = true)
    (k_LibraryDraft_takes_row : PySem.W.keepIn K (.ref f_LibraryDraft_takes_row) = true)
    (a_Library_init : PySem.W.findIn K (.ref C_Library) "__init__" = some (some (.ref f_Library_init)))
    (i_Library_init : PySem.W.isFn K (.ref f_Library_init) = true)
    (l_Library_init : K.lookup f_Library_init = some ⟨oc_Library_init, od_Library_init, .func (PySem.W.fnOf "__init__" "Library.__init__" (defArgs s_Library_init) (defBody s_Library_init) (defScope s_Library_init) .none kV_Library_init dc_Library_init pm_Library_init an_Library_init cd_Library_init ct_Library_init), sl_Library_init⟩)
    (c_Library_init : PySem.W.codeIn K cd_Library_init "Library.__init__" = true)
    (k_Library_init : PySem.W.keepIn K (.ref f_Library_init) = true)
    (a_Library_text_lines : PySem.W.findIn K (.ref C_Library) "text_lines" = some (some (.ref f_Library_text_lines)))
    (i_Library_text_lines : PySem.W.isFn K (.ref f_Library_text_lines) = true)
    (l_Library_text_lines : K.lookup f_Library_text_lines = some ⟨oc_Library_text_lines, od_Library_text_lines, .func (PySem.W.fnOf "text_lines" "Library.text_lines" (defArgs s_Library_text_lines) (defBody s_Library_text_lines) (defScope s_Library_text_lines) .none kV_Library_text_lines dc_Library_text_lines pm_Library_text_lines an_Library_text_lines cd_Library_text_lines ct_Library_text_lines), sl_Library_text_lines⟩)
    (c_Library_text_lines : PySem.W.codeIn K cd_Library_text_lines "Library.text_lines" = true)
    (k_Library_text_lines : PySem.W.keepIn K (.ref f_Library_text_lines) = true)
    (a_Library_read : PySem.W.findCls K (.ref C_Library) (.type "type") "read" = some (.get (.builtin "classmethod.__get__") (.ref p_Library_read) .none (.ref C_Library)))
    (rc_Library_read : PySem.W.recIn K p_Library_read "classmethod" = some (.ref f_Library_read :: r_Library_read))
    (fi_Library_read : PySem.W.fnIn K f_Library_read = true)
    (l_Library_read : K.lookup f_Library_read = some ⟨oc_Library_read, od_Library_read, .func (PySem.W.fnOf "read" "Library.read" (defArgs s_Library_read) (defBody s_Library_read) (defScope s_Library_read) .none kV_Library_read dc_Library_read pm_Library_read an_Library_read cd_Library_read ct_Library_read), sl_Library_read⟩)
    (c_Library_read : PySem.W.codeIn K cd_Library_read "Library.read" = true)
    (k_Library_read : PySem.W.keepIn K (.ref f_Library_read) = true)
    (a_Library_str : PySem.W.findIn K (.ref C_Library) "__str__" = some (some (.ref f_Library_str)))
    (i_Library_str : PySem.W.isFn K (.ref f_Library_str) = true)
    (l_Library_str : K.lookup f_Library_str = some ⟨oc_Library_str, od_Library_str, .func (PySem.W.fnOf "__str__" "Library.__str__" (defArgs s_Library_str) (defBody s_Library_str) (defScope s_Library_str) .none kV_Library_str dc_Library_str pm_Library_str an_Library_str cd_Library_str ct_Library_str), sl_Library_str⟩)
    (c_Library_str : PySem.W.codeIn K cd_Library_str "Library.__str__" = true)
    (k_Library_str : PySem.W.keepIn K (.ref f_Library_str) = true)
    (a_law_bag : PySem.W.nsIn K mainGlobals "_law_bag" = some (some (.ref f_law_bag)))
    (l_law_bag : K.lookup f_law_bag = some ⟨oc_law_bag, od_law_bag, .func (PySem.W.fnOf "_law_bag" "_law_bag" (defArgs s_law_bag) (defBody s_law_bag) (defScope s_law_bag) .none kV_law_bag dc_law_bag pm_law_bag an_law_bag cd_law_bag ct_law_bag), sl_law_bag⟩)
    (c_law_bag : PySem.W.codeIn K cd_law_bag "_law_bag" = true)
    (k_law_bag : PySem.W.keepIn K (.ref f_law_bag) = true)
    (a_law_take : PySem.W.nsIn K mainGlobals "_law_take" = some (some (.ref f_law_take)))
    (l_law_take : K.lookup f_law_take = some ⟨oc_law_take, od_law_take, .func (PySem.W.fnOf "_law_take" "_law_take" (defArgs s_law_take) (defBody s_law_take) (defScope s_law_take) .none kV_law_take dc_law_take pm_law_take an_law_take cd_law_take ct_law_take), sl_law_take⟩)
    (c_law_take : PySem.W.codeIn K cd_law_take "_law_take" = true)
    (k_law_take : PySem.W.keepIn K (.ref f_law_take) = true)
    (a_law_of : PySem.W.nsIn K mainGlobals "_law_of" = some (some (.ref f_law_of)))
    (l_law_of : K.lookup f_law_of = some ⟨oc_law_of, od_law_of, .func (PySem.W.fnOf "_law_of" "_law_of" (defArgs s_law_of) (defBody s_law_of) (defScope s_law_of) .none kV_law_of dc_law_of pm_law_of an_law_of cd_law_of ct_law_of), sl_law_of⟩)
    (c_law_of : PySem.W.codeIn K cd_law_of "_law_of" = true)
    (k_law_of : PySem.W.keepIn K (.ref f_law_of) = true)
    (a_law_words : PySem.W.nsIn K mainGlobals "_law_words" = some (some (.ref f_law_words)))
    (l_law_words : K.lookup f_law_words = some ⟨oc_law_words, od_law_words, .func (PySem.W.fnOf "_law_words" "_law_words" (defArgs s_law_words) (defBody s_law_words) (defScope s_law_words) .none kV_law_words dc_law_words pm_law_words an_law_words cd_law_words ct_law_words), sl_law_words⟩)
    (c_law_words : PySem.W.codeIn K cd_law_words "_law_words" = true)
    (k_law_words : PySem.W.keepIn K (.ref f_law_words) = true)
    (a_law_titles : PySem.W.nsIn K mainGlobals "_law_titles" = some (some (.ref f_law_titles)))
    (l_law_titles : K.lookup f_law_titles = some ⟨oc_law_titles, od_law_titles, .func (PySem.W.fnOf "_law_titles" "_law_titles" (defArgs s_law_titles) (defBody s_law_titles) (defScope s_law_titles) .none kV_law_titles dc_law_titles pm_law_titles an_law_titles cd_law_titles ct_law_titles), sl_law_titles⟩)
    (c_law_titles : PySem.W.codeIn K cd_law_titles "_law_titles" = true)
    (k_law_titles : PySem.W.keepIn K (.ref f_law_titles) = true)
    (a_law_makers : PySem.W.nsIn K mainGlobals "_law_makers" = some (some (.ref f_law_makers)))
    (l_law_makers : K.lookup f_law_makers = some ⟨oc_law_makers, od_law_makers, .func (PySem.W.fnOf "_law_makers" "_law_makers" (defArgs s_law_makers) (defBody s_law_makers) (defScope s_law_makers) .none kV_law_makers dc_law_makers pm_law_makers an_law_makers cd_law_makers ct_law_makers), sl_law_makers⟩)
    (c_law_makers : PySem.W.codeIn K cd_law_makers "_law_makers" = true)
    (k_law_makers : PySem.W.keepIn K (.ref f_law_makers) = true)
    (a_law_library : PySem.W.nsIn K mainGlobals "_law_library" = some (some (.ref f_law_library)))
    (l_law_library : K.lookup f_law_library = some ⟨oc_law_library, od_law_library, .func (PySem.W.fnOf "_law_library" "_law_library" (defArgs s_law_library) (defBody s_law_library) (defScope s_law_library) .none kV_law_library dc_law_library pm_law_library an_law_library cd_law_library ct_law_library), sl_law_library⟩)
    (c_law_library : PySem.W.codeIn K cd_law_library "_law_library" = true)
    (k_law_library : PySem.W.keepIn K (.ref f_law_library) = true)
    (a_law_lines : PySem.W.nsIn K mainGlobals "_law_lines" = some (some (.ref f_law_lines)))
    (l_law_lines : K.lookup f_law_lines = some ⟨oc_law_lines, od_law_lines, .func (PySem.W.fnOf "_law_lines" "_law_lines" (defArgs s_law_lines) (defBody s_law_lines) (defScope s_law_lines) .none kV_law_lines dc_law_lines pm_law_lines an_law_lines cd_law_lines ct_law_lines), sl_law_lines⟩)
    (c_law_lines : PySem.W.codeIn K cd_law_lines "_law_lines" = true)
    (k_law_lines : PySem.W.keepIn K (.ref f_law_lines) = true)
    (a_law_wrong_fields : PySem.W.nsIn K mainGlobals "_law_wrong_fields" = some (some (.ref f_law_wrong_fields)))
    (l_law_wrong_fields : K.lookup f_law_wrong_fields = some ⟨oc_law_wrong_fields, od_law_wrong_fields, .func (PySem.W.fnOf "_law_wrong_fields" "_law_wrong_fields" (defArgs s_law_wrong_fields) (defBody s_law_wrong_fields) (defScope s_law_wrong_fields) .none kV_law_wrong_fields dc_law_wrong_fields pm_law_wrong_fields an_law_wrong_fields cd_law_wrong_fields ct_law_wrong_fields), sl_law_wrong_fields⟩)
    (c_law_wrong_fields : PySem.W.codeIn K cd_law_wrong_fields "_law_wrong_fields" = true)
    (k_law_wrong_fields : PySem.W.keepIn K (.ref f_law_wrong_fields) = true)
    (a_law_wrong_operations : PySem.W.nsIn K mainGlobals "_law_wrong_operations" = some (some (.ref f_law_wrong_operations)))
    (l_law_wrong_operations : K.lookup f_law_wrong_operations = some ⟨oc_law_wrong_operations, od_law_wrong_operations, .func (PySem.W.fnOf "_law_wrong_operations" "_law_wrong_operations" (defArgs s_law_wrong_operations) (defBody s_law_wrong_operations) (defScope s_law_wrong_operations) .none kV_law_wrong_operations dc_law_wrong_operations pm_law_wrong_operations an_law_wrong_operations cd_law_wrong_operations ct_law_wrong_operations), sl_law_wrong_operations⟩)
    (c_law_wrong_operations : PySem.W.codeIn K cd_law_wrong_operations "_law_wrong_operations" = true)
    (k_law_wrong_operations : PySem.W.keepIn K (.ref f_law_wrong_operations) = true)
    (a_law_wrong : PySem.W.nsIn K mainGlobals "_law_wrong" = some (some (.ref f_law_wrong)))
    (l_law_wrong : K.lookup f_law_wrong = some ⟨oc_law_wrong, od_law_wrong, .func (PySem.W.fnOf "_law_wrong" "_law_wrong" (defArgs s_law_wrong) (defBody s_law_wrong) (defScope s_law_wrong) .none kV_law_wrong dc_law_wrong pm_law_wrong an_law_wrong cd_law_wrong ct_law_wrong), sl_law_wrong⟩)
    (c_law_wrong : PySem.W.codeIn K cd_law_wrong "_law_wrong" = true)
    (k_law_wrong : PySem.W.keepIn K (.ref f_law_wrong) = true)
    (a_law_at : PySem.W.nsIn K mainGlobals "_law_at" = some (some (.ref f_law_at)))
    (l_law_at : K.lookup f_law_at = some ⟨oc_law_at, od_law_at, .func (PySem.W.fnOf "_law_at" "_law_at" (defArgs s_law_at) (defBody s_law_at) (defScope s_law_at) .none kV_law_at dc_law_at pm_law_at an_law_at cd_law_at ct_law_at), sl_law_at⟩)
    (c_law_at : PySem.W.codeIn K cd_law_at "_law_at" = true)
    (k_law_at : PySem.W.keepIn K (.ref f_law_at) = true)
    (a_law : PySem.W.nsIn K mainGlobals "law" = some (some (.ref f_law)))
    (l_law : K.lookup f_law = some ⟨oc_law, od_law, .func (PySem.W.fnOf "law" "law" (defArgs s_law) (defBody s_law) (defScope s_law) .none kV_law dc_law pm_law an_law cd_law ct_law), sl_law⟩)
    (c_law : PySem.W.codeIn K cd_law "law" = true)
    (k_law : PySem.W.keepIn K (.ref f_law) = true)
    (pg_LibraryDraft : PySem.W.plainGet K C_LibraryDraft Str.empty = true)
    (hd_LibraryDraft : PySem.W.hasDictIn K C_LibraryDraft = true)
    (po_LibraryDraft : PySem.W.plainOver K C_LibraryDraft = true)
    (sa_LibraryDraft : PySem.W.findIn K (.ref C_LibraryDraft) "__setattr__" = some (some (.builtin "object.__setattr__")))
    (mk_LibraryDraft : PySem.W.makesIn K C_LibraryDraft = true)
    (kc_LibraryDraft : PySem.W.keepIn K (.ref C_LibraryDraft) = true)
    (rd_LibraryDraft : PySem.W.readsIn K C_LibraryDraft (.type "type") = true)
    (ga_LibraryDraft : PySem.W.specialIn K (.ref C_LibraryDraft) "__getattribute__" = some (some (.builtin "type.__getattribute__")))
    (mo_LibraryDraft : PySem.W.mroIn K C_LibraryDraft (.type "object") = some true)
    (hc_LibraryDraft : PySem.W.findIn K (.ref C_LibraryDraft) "__class__" = some (some (.builtin "object.__class__")))
    (ic_LibraryDraft : PySem.W.isClsIn K C_LibraryDraft = true)
    (ty_LibraryDraft : PySem.W.typeIn K (.ref C_LibraryDraft) = some (.type "type"))
    (no_LibraryDraft_name : PySem.W.findIn K (.ref C_LibraryDraft) "name" = some none)
    (no_LibraryDraft_parts : PySem.W.findIn K (.ref C_LibraryDraft) "parts" = some none)
    (no_LibraryDraft_keeping : PySem.W.findIn K (.ref C_LibraryDraft) "keeping" = some none)
    (no_LibraryDraft_root_hook : PySem.W.findIn K (.ref C_LibraryDraft) "root_hook" = some none)
    (no_LibraryDraft_rows : PySem.W.findIn K (.ref C_LibraryDraft) "rows" = some none)
    (pg_Library : PySem.W.plainGet K C_Library Str.empty = true)
    (hd_Library : PySem.W.hasDictIn K C_Library = true)
    (po_Library : PySem.W.plainOver K C_Library = true)
    (sa_Library : PySem.W.findIn K (.ref C_Library) "__setattr__" = some (some (.builtin "object.__setattr__")))
    (mk_Library : PySem.W.makesIn K C_Library = true)
    (kc_Library : PySem.W.keepIn K (.ref C_Library) = true)
    (rd_Library : PySem.W.readsIn K C_Library (.type "type") = true)
    (ga_Library : PySem.W.specialIn K (.ref C_Library) "__getattribute__" = some (some (.builtin "type.__getattribute__")))
    (mo_Library : PySem.W.mroIn K C_Library (.type "object") = some true)
    (hc_Library : PySem.W.findIn K (.ref C_Library) "__class__" = some (some (.builtin "object.__class__")))
    (ic_Library : PySem.W.isClsIn K C_Library = true)
    (ty_Library : PySem.W.typeIn K (.ref C_Library) = some (.type "type"))
    (no_Library_name : PySem.W.findIn K (.ref C_Library) "name" = some none)
    (no_Library_root_parameters : PySem.W.findIn K (.ref C_Library) "root_parameters" = some none)
    (no_Library_kept : PySem.W.findIn K (.ref C_Library) "kept" = some none)
    (no_Library_root_hook : PySem.W.findIn K (.ref C_Library) "root_hook" = some none)
    (no_Library_rows : PySem.W.findIn K (.ref C_Library) "rows" = some none)
    (no_Library_order : PySem.W.findIn K (.ref C_Library) "order" = some none)
    (no_Library_changes : PySem.W.findIn K (.ref C_Library) "changes" = some none)
    (no_Library_made_by : PySem.W.findIn K (.ref C_Library) "made_by" = some none)
    (no_Library_text : PySem.W.findIn K (.ref C_Library) "text" = some none)
    (ty_BadLibrary : PySem.W.typeIn K (.ref C_BadLibrary) = some (.type "type"))
    (ic_BadLibrary : PySem.W.isClsIn K C_BadLibrary = true)
    (sb_BadLibrary : PySem.W.subIn K (.ref C_BadLibrary) (.type "BaseException") = some true)
    (lk_BadLibrary : K.lookup C_BadLibrary = some (excClassObj nm_BadLibrary q_BadLibrary C_BadLibrary N_BadLibrary bs_BadLibrary bm_BadLibrary true sn_BadLibrary sub_BadLibrary ab_BadLibrary col_BadLibrary dd_BadLibrary k0_BadLibrary k1_BadLibrary k2_BadLibrary k3_BadLibrary k5_BadLibrary "ValueError.__new__"))
    (rv_BadLibrary : PySem.HandSPX.refsVE bm_BadLibrary = true)
    (sa_BadLibrary : PySem.W.findIn K (.ref C_BadLibrary) "__setattr__" = some (some (.builtin "object.__setattr__")))
    (kc_BadLibrary : PySem.W.keepIn K (.ref C_BadLibrary) = true)
    (xt_BadLibrary : PySem.W.typeIn K (.ref f_BadLibrary_init) = some (.type "function"))
    (no_BadLibrary_at : PySem.W.findIn K (.ref C_BadLibrary) "at" = some none)
    (ga_BadLibrary : PySem.W.findIn K (.ref C_BadLibrary) "__getattribute__" = some (some (.builtin "BaseException.__getattribute__")))
    (gg_BadLibrary : PySem.W.findIn K (.ref C_BadLibrary) "__getattr__" = some none)
    (hd_BadLibrary : PySem.W.hasDictIn K C_BadLibrary = true)
    (hc_BadLibrary : PySem.W.findIn K (.ref C_BadLibrary) "__class__" = some (some (.builtin "object.__class__")))
    (mo_BadLibrary : PySem.W.mroIn K C_BadLibrary (.type "object") = some true)
    (ty_BadWorld : PySem.W.typeIn K (.ref C_BadWorld) = some (.type "type"))
    (ic_BadWorld : PySem.W.isClsIn K C_BadWorld = true)
    (sb_BadWorld : PySem.W.subIn K (.ref C_BadWorld) (.type "BaseException") = some true)
    (ty_HeirsbackError : PySem.W.typeIn K (.ref C_HeirsbackError) = some (.type "type"))
    (ic_HeirsbackError : PySem.W.isClsIn K C_HeirsbackError = true)
    (sb_HeirsbackError : PySem.W.subIn K (.ref C_HeirsbackError) (.type "BaseException") = some true)
    (hnC : PySem.W.specialIn K (.builtin "object.__class__") "__get__" = some (some (.builtin "getset_descriptor.__get__")))
    (htC : PySem.W.takesIn K (.builtin "object.__class__") = some true)
    (a_CAPITALS : PySem.W.nsIn K mainGlobals "CAPITALS" = some (some (.str "ABCDEFGHIJKLMNOPQRSTUVWXYZ" t_CAPITALS)))
    (a_LETTERS : PySem.W.nsIn K mainGlobals "LETTERS" = some (some (.str "abcdefghijklmnopqrstuvwxyz" t_LETTERS)))
    (a_BINARY_SIGNS : PySem.W.nsIn K mainGlobals "BINARY_SIGNS" = some (some (.ref ad_BINARY_SIGNS)))
    (lk_BINARY_SIGNS : K.lookup ad_BINARY_SIGNS = some ⟨.type "tuple", od_BINARY_SIGNS, .seq #[.str "+" t0_BINARY_SIGNS, .str "-" t1_BINARY_SIGNS, .str "*" t2_BINARY_SIGNS, .str "//" t3_BINARY_SIGNS, .str "&" t4_BINARY_SIGNS, .str "|" t5_BINARY_SIGNS, .str "^" t6_BINARY_SIGNS, .str "<<" t7_BINARY_SIGNS, .str ">>" t8_BINARY_SIGNS] n_BINARY_SIGNS, sl_BINARY_SIGNS⟩)
    (a_UNARY_SIGNS : PySem.W.nsIn K mainGlobals "UNARY_SIGNS" = some (some (.ref ad_UNARY_SIGNS)))
    (lk_UNARY_SIGNS : K.lookup ad_UNARY_SIGNS = some ⟨.type "tuple", od_UNARY_SIGNS, .seq #[.str "neg" t0_UNARY_SIGNS, .str "pos" t1_UNARY_SIGNS, .str "abs" t2_UNARY_SIGNS, .str "invert" t3_UNARY_SIGNS] n_UNARY_SIGNS, sl_UNARY_SIGNS⟩)
    (a_BARRED : PySem.W.nsIn K mainGlobals "BARRED" = some (some (.ref ad_BARRED)))
    (lk_BARRED : K.lookup ad_BARRED = some ⟨.type "tuple", od_BARRED, .seq #[.str "by" t0_BARRED, .str "changes" t1_BARRED, .str "name" t2_BARRED, .str "of" t3_BARRED, .str "to" t4_BARRED, .str "world" t5_BARRED] n_BARRED, sl_BARRED⟩)
    (a_HOOKS : PySem.W.nsIn K mainGlobals "HOOKS" = some (some (.ref ad_HOOKS)))
    (lk_HOOKS : K.lookup ad_HOOKS = some ⟨.type "tuple", od_HOOKS, .seq #[.str "named" t0_HOOKS, .str "call" t1_HOOKS, .str "names" t2_HOOKS, .str "renew" t3_HOOKS, .str "copy" t4_HOOKS] n_HOOKS, sl_HOOKS⟩)
    (a_MOST_LETTERS : PySem.W.nsIn K mainGlobals "MOST_LETTERS" = some (some (.int 8 t_MOST_LETTERS)))
    (a_MOST_PARAMETERS : PySem.W.nsIn K mainGlobals "MOST_PARAMETERS" = some (some (.int 3 t_MOST_PARAMETERS)))
    (a_MOST_KEPT : PySem.W.nsIn K mainGlobals "MOST_KEPT" = some (some (.int 2 t_MOST_KEPT)))
    (a_MOST_OPERATIONS : PySem.W.nsIn K mainGlobals "MOST_OPERATIONS" = some (some (.int 6 t_MOST_OPERATIONS)))
    (a_MAKERS : PySem.W.nsIn K mainGlobals "MAKERS" = some (some (.ref ad_MAKERS)))
    (lk_MAKERS : K.lookup ad_MAKERS = some ⟨.type "dict", none, .dict #[⟨0, .int 0 k0_MAKERS, .ref ad_MAKERS_0⟩, ⟨1, .int 1 k1_MAKERS, .ref ad_MAKERS_1⟩, ⟨2, .int 2 k2_MAKERS, .ref ad_MAKERS_2⟩] n_MAKERS, #[]⟩)
    (lk_MAKERS_0 : K.lookup ad_MAKERS_0 = some ⟨.type "tuple", od_MAKERS_0, .seq #[.str "named" t0_MAKERS_0, .str "call own" t1_MAKERS_0, .str "names own" t2_MAKERS_0, .str "bare own" t3_MAKERS_0] n_MAKERS_0, sl_MAKERS_0⟩)
    (lk_MAKERS_1 : K.lookup ad_MAKERS_1 = some ⟨.type "tuple", od_MAKERS_1, .seq #[.str "named" t0_MAKERS_1, .str "call own" t1_MAKERS_1, .str "names own" t2_MAKERS_1, .str "renew own" t3_MAKERS_1, .str "copy own" t4_MAKERS_1, .str "bare own" t5_MAKERS_1, .str "hook" t6_MAKERS_1] n_MAKERS_1, sl_MAKERS_1⟩)
    (lk_MAKERS_2 : K.lookup ad_MAKERS_2 = some ⟨.type "tuple", od_MAKERS_2, .seq #[.str "named" t0_MAKERS_2, .str "call own" t1_MAKERS_2, .str "call other" t2_MAKERS_2, .str "call deeper" t3_MAKERS_2, .str "call common" t4_MAKERS_2, .str "names own" t5_MAKERS_2, .str "names other" t6_MAKERS_2, .str "names deeper" t7_MAKERS_2, .str "names common" t8_MAKERS_2, .str "renew own" t9_MAKERS_2, .str "renew other" t10_MAKERS_2, .str "renew deeper" t11_MAKERS_2, .str "copy own" t12_MAKERS_2, .str "copy other" t13_MAKERS_2, .str "copy deeper" t14_MAKERS_2, .str "bare own" t15_MAKERS_2, .str "hook" t16_MAKERS_2] n_MAKERS_2, sl_MAKERS_2⟩)
    (su_bl : PySem.W.subIn K (.ref C_BadLibrary) (.ref C_BadLibrary) = some true)
    (su_bw : PySem.W.subIn K (.ref C_BadLibrary) (.ref C_BadWorld) = some false)
    (su_bh : PySem.W.subIn K (.ref C_BadLibrary) (.ref C_HeirsbackError) = some true)
    (su_bv : PySem.W.subIn K (.ref C_BadLibrary) (.type "ValueError") = some true)
    (su_bk : PySem.W.subIn K (.ref C_BadLibrary) (.type "LookupError") = some false)
    (xhd_hb : PySem.W.hasDictIn K C_HeirsbackError = true)
    (xhd_bw : PySem.W.hasDictIn K C_BadWorld = true)
    (n_LookupError : PySem.W.nsIn K mainGlobals "LookupError" = some none)
    (n_ValueError : PySem.W.nsIn K mainGlobals "ValueError" = some none)
    (n_abs : PySem.W.nsIn K mainGlobals "abs" = some none)
    (n_all : PySem.W.nsIn K mainGlobals "all" = some none)
    (n_bool : PySem.W.nsIn K mainGlobals "bool" = some none)
    (n_enumerate : PySem.W.nsIn K mainGlobals "enumerate" = some none)
    (n_int : PySem.W.nsIn K mainGlobals "int" = some none)
    (n_isinstance : PySem.W.nsIn K mainGlobals "isinstance" = some none)
    (n_len : PySem.W.nsIn K mainGlobals "len" = some none)
    (n_list : PySem.W.nsIn K mainGlobals "list" = some none)
    (n_max : PySem.W.nsIn K mainGlobals "max" = some none)
    (n_min : PySem.W.nsIn K mainGlobals "min" = some none)
    (n_range : PySem.W.nsIn K mainGlobals "range" = some none)
    (n_str : PySem.W.nsIn K mainGlobals "str" = some none)
    (n_tuple : PySem.W.nsIn K mainGlobals "tuple" = some none) :
    ∃ fd : FuncData, (∀ (s : Shared) (v : Value), BindsTo s fd ⟨[v], []⟩ [("_law_script", v)]) ∧ ∀ base : Heap, K.In base → base.Ns mainGlobals mg → FnOk l.prog w K mg base CX0 8 fa fd ["_law_script"] (sp_law K) := by
  have e := hfa.symm.trans (PySem.W.mg_of X G a_law)
  cases e
  have T : Txt K mg ⟨f_BadLibrary_init, (PySem.W.fnOf "__init__" "BadLibrary.__init__" (defArgs s_BadLibrary_init) (defBody s_BadLibrary_init) (defScope s_BadLibrary_init) .none kV_BadLibrary_init dc_BadLibrary_init pm_BadLibrary_init an_BadLibrary_init cd_BadLibrary_init ct_BadLibrary_init), f_is_word, (PySem.W.fnOf "is_word" "is_word" (defArgs s_is_word) (defBody s_is_word) (defScope s_is_word) .none kV_is_word dc_is_word pm_is_word an_is_word cd_is_word ct_is_word), f_is_class_name, (PySem.W.fnOf "is_class_name" "is_class_name" (defArgs s_is_class_name) (defBody s_is_class_name) (defScope s_is_class_name) .none kV_is_class_name dc_is_class_name pm_is_class_name an_is_class_name cd_is_class_name ct_is_class_name), f_is_field_name, (PySem.W.fnOf "is_field_name" "is_field_name" (defArgs s_is_field_name) (defBody s_is_field_name) (defScope s_is_field_name) .none kV_is_field_name dc_is_field_name pm_is_field_name an_is_field_name cd_is_field_name ct_is_field_name), f_arity_of, (PySem.W.fnOf "arity_of" "arity_of" (defArgs s_arity_of) (defBody s_arity_of) (defScope s_arity_of) .none kV_arity_of dc_arity_of pm_arity_of an_arity_of cd_arity_of ct_arity_of), f_makers_for, (PySem.W.fnOf "makers_for" "makers_for" (defArgs s_makers_for) (defBody s_makers_for) (defScope s_makers_for) .none kV_makers_for dc_makers_for pm_makers_for an_makers_for cd_makers_for ct_makers_for), f_LibraryDraft_init, (PySem.W.fnOf "__init__" "LibraryDraft.__init__" (defArgs s_LibraryDraft_init) (defBody s_LibraryDraft_init) (defScope s_LibraryDraft_init) .none kV_LibraryDraft_init dc_LibraryDraft_init pm_LibraryDraft_init an_LibraryDraft_init cd_LibraryDraft_init ct_LibraryDraft_init), f_LibraryDraft_takes_line, (PySem.W.fnOf "takes_line" "LibraryDraft.takes_line" (defArgs s_LibraryDraft_takes_line) (defBody s_LibraryDraft_takes_line) (defScope s_LibraryDraft_takes_line) .none kV_LibraryDraft_takes_line dc_LibraryDraft_takes_line pm_LibraryDraft_takes_line an_LibraryDraft_takes_line cd_LibraryDraft_takes_line ct_LibraryDraft_takes_line), f_LibraryDraft_takes_name, (PySem.W.fnOf "takes_name" "LibraryDraft.takes_name" (defArgs s_LibraryDraft_takes_name) (defBody s_LibraryDraft_takes_name) (defScope s_LibraryDraft_takes_name) .none kV_LibraryDraft_takes_name dc_LibraryDraft_takes_name pm_LibraryDraft_takes_name an_LibraryDraft_takes_name cd_LibraryDraft_takes_name ct_LibraryDraft_takes_name), f_LibraryDraft_is_new, (PySem.W.fnOf "is_new" "LibraryDraft.is_new" (defArgs s_LibraryDraft_is_new) (defBody s_LibraryDraft_is_new) (defScope s_LibraryDraft_is_new) .none kV_LibraryDraft_is_new dc_LibraryDraft_is_new pm_LibraryDraft_is_new an_LibraryDraft_is_new cd_LibraryDraft_is_new ct_LibraryDraft_is_new), f_LibraryDraft_takes_needs, (PySem.W.fnOf "takes_needs" "LibraryDraft.takes_needs" (defArgs s_LibraryDraft_takes_needs) (defBody s_LibraryDraft_takes_needs) (defScope s_LibraryDraft_takes_needs) .none kV_LibraryDraft_takes_needs dc_LibraryDraft_takes_needs pm_LibraryDraft_takes_needs an_LibraryDraft_takes_needs cd_LibraryDraft_takes_needs ct_LibraryDraft_takes_needs), f_LibraryDraft_takes_keeps, (PySem.W.fnOf "takes_keeps" "LibraryDraft.takes_keeps" (defArgs s_LibraryDraft_takes_keeps) (defBody s_LibraryDraft_takes_keeps) (defScope s_LibraryDraft_takes_keeps) .none kV_LibraryDraft_takes_keeps dc_LibraryDraft_takes_keeps pm_LibraryDraft_takes_keeps an_LibraryDraft_takes_keeps cd_LibraryDraft_takes_keeps ct_LibraryDraft_takes_keeps), f_LibraryDraft_takes_hook, (PySem.W.fnOf "takes_hook" "LibraryDraft.takes_hook" (defArgs s_LibraryDraft_takes_hook) (defBody s_LibraryDraft_takes_hook) (defScope s_LibraryDraft_takes_hook) .none kV_LibraryDraft_takes_hook dc_LibraryDraft_takes_hook pm_LibraryDraft_takes_hook an_LibraryDraft_takes_hook cd_LibraryDraft_takes_hook ct_LibraryDraft_takes_hook), f_LibraryDraft_takes_request, (PySem.W.fnOf "takes_request" "LibraryDraft.takes_request" (defArgs s_LibraryDraft_takes_request) (defBody s_LibraryDraft_takes_request) (defScope s_LibraryDraft_takes_request) .none kV_LibraryDraft_takes_request dc_LibraryDraft_takes_request pm_LibraryDraft_takes_request an_LibraryDraft_takes_request cd_LibraryDraft_takes_request ct_LibraryDraft_takes_request), f_LibraryDraft_takes_operation, (PySem.W.fnOf "takes_operation" "LibraryDraft.takes_operation" (defArgs s_LibraryDraft_takes_operation) (defBody s_LibraryDraft_takes_operation) (defScope s_LibraryDraft_takes_operation) .none kV_LibraryDraft_takes_operation dc_LibraryDraft_takes_operation pm_LibraryDraft_takes_operation an_LibraryDraft_takes_operation cd_LibraryDraft_takes_operation ct_LibraryDraft_takes_operation), f_LibraryDraft_takes_row, (PySem.W.fnOf "takes_row" "LibraryDraft.takes_row" (defArgs s_LibraryDraft_takes_row) (defBody s_LibraryDraft_takes_row) (defScope s_LibraryDraft_takes_row) .none kV_LibraryDraft_takes_row dc_LibraryDraft_takes_row pm_LibraryDraft_takes_row an_LibraryDraft_takes_row cd_LibraryDraft_takes_row ct_LibraryDraft_takes_row), f_Library_init, (PySem.W.fnOf "__init__" "Library.__init__" (defArgs s_Library_init) (defBody s_Library_init) (defScope s_Library_init) .none kV_Library_init dc_Library_init pm_Library_init an_Library_init cd_Library_init ct_Library_init), f_Library_text_lines, (PySem.W.fnOf "text_lines" "Library.text_lines" (defArgs s_Library_text_lines) (defBody s_Library_text_lines) (defScope s_Library_text_lines) .none kV_Library_text_lines dc_Library_text_lines pm_Library_text_lines an_Library_text_lines cd_Library_text_lines ct_Library_text_lines), f_Library_read, (PySem.W.fnOf "read" "Library.read" (defArgs s_Library_read) (defBody s_Library_read) (defScope s_Library_read) .none kV_Library_read dc_Library_read pm_Library_read an_Library_read cd_Library_read ct_Library_read), p_Library_read, f_Library_str, (PySem.W.fnOf "__str__" "Library.__str__" (defArgs s_Library_str) (defBody s_Library_str) (defScope s_Library_str) .none kV_Library_str dc_Library_str pm_Library_str an_Library_str cd_Library_str ct_Library_str), f_law_bag, (PySem.W.fnOf "_law_bag" "_law_bag" (defArgs s_law_bag) (defBody s_law_bag) (defScope s_law_bag) .none kV_law_bag dc_law_bag pm_law_bag an_law_bag cd_law_bag ct_law_bag), f_law_take, (PySem.W.fnOf "_law_take" "_law_take" (defArgs s_law_take) (defBody s_law_take) (defScope s_law_take) .none kV_law_take dc_law_take pm_law_take an_law_take cd_law_take ct_law_take), f_law_of, (PySem.W.fnOf "_law_of" "_law_of" (defArgs s_law_of) (defBody s_law_of) (defScope s_law_of) .none kV_law_of dc_law_of pm_law_of an_law_of cd_law_of ct_law_of), f_law_words, (PySem.W.fnOf "_law_words" "_law_words" (defArgs s_law_words) (defBody s_law_words) (defScope s_law_words) .none kV_law_words dc_law_words pm_law_words an_law_words cd_law_words ct_law_words), f_law_titles, (PySem.W.fnOf "_law_titles" "_law_titles" (defArgs s_law_titles) (defBody s_law_titles) (defScope s_law_titles) .none kV_law_titles dc_law_titles pm_law_titles an_law_titles cd_law_titles ct_law_titles), f_law_makers, (PySem.W.fnOf "_law_makers" "_law_makers" (defArgs s_law_makers) (defBody s_law_makers) (defScope s_law_makers) .none kV_law_makers dc_law_makers pm_law_makers an_law_makers cd_law_makers ct_law_makers), f_law_library, (PySem.W.fnOf "_law_library" "_law_library" (defArgs s_law_library) (defBody s_law_library) (defScope s_law_library) .none kV_law_library dc_law_library pm_law_library an_law_library cd_law_library ct_law_library), f_law_lines, (PySem.W.fnOf "_law_lines" "_law_lines" (defArgs s_law_lines) (defBody s_law_lines) (defScope s_law_lines) .none kV_law_lines dc_law_lines pm_law_lines an_law_lines cd_law_lines ct_law_lines), f_law_wrong_fields, (PySem.W.fnOf "_law_wrong_fields" "_law_wrong_fields" (defArgs s_law_wrong_fields) (defBody s_law_wrong_fields) (defScope s_law_wrong_fields) .none kV_law_wrong_fields dc_law_wrong_fields pm_law_wrong_fields an_law_wrong_fields cd_law_wrong_fields ct_law_wrong_fields), f_law_wrong_operations, (PySem.W.fnOf "_law_wrong_operations" "_law_wrong_operations" (defArgs s_law_wrong_operations) (defBody s_law_wrong_operations) (defScope s_law_wrong_operations) .none kV_law_wrong_operations dc_law_wrong_operations pm_law_wrong_operations an_law_wrong_operations cd_law_wrong_operations ct_law_wrong_operations), f_law_wrong, (PySem.W.fnOf "_law_wrong" "_law_wrong" (defArgs s_law_wrong) (defBody s_law_wrong) (defScope s_law_wrong) .none kV_law_wrong dc_law_wrong pm_law_wrong an_law_wrong cd_law_wrong ct_law_wrong), f_law_at, (PySem.W.fnOf "_law_at" "_law_at" (defArgs s_law_at) (defBody s_law_at) (defScope s_law_at) .none kV_law_at dc_law_at pm_law_at an_law_at cd_law_at ct_law_at), fa, (PySem.W.fnOf "law" "law" (defArgs s_law) (defBody s_law) (defScope s_law) .none kV_law dc_law pm_law an_law cd_law ct_law), C_LibraryDraft, C_Library, C_BadLibrary, C_BadWorld, C_HeirsbackError, t_CAPITALS, t_LETTERS, ad_BINARY_SIGNS, ad_UNARY_SIGNS, ad_BARRED, ad_HOOKS, t_MOST_LETTERS, t_MOST_PARAMETERS, t_MOST_KEPT, t_MOST_OPERATIONS, ad_MAKERS, ad_MAKERS_0, ad_MAKERS_1, ad_MAKERS_2⟩ := {
    F_BadLibrary_init := fun_mk (st := s_BadLibrary_init) l_BadLibrary_init c_BadLibrary_init k_BadLibrary_init,
    b_BadLibrary_init := (fun_mk (st := s_BadLibrary_init) l_BadLibrary_init c_BadLibrary_init k_BadLibrary_init).binds (ps := ["self", "at"]) fun _ _ _ _ _ _ us hl => match us, hl with | [_, _], _ => rfl,
    m_BadLibrary_init := ⟨a_BadLibrary_init, i_BadLibrary_init, k_BadLibrary_init⟩,
    F_is_word := fun_mk (st := s_is_word) l_is_word c_is_word k_is_word,
    b_is_word := (fun_mk (st := s_is_word) l_is_word c_is_word k_is_word).binds (ps := ["word"]) fun _ _ _ _ _ _ us hl => match us, hl with | [_], _ => rfl,
    g_is_word := PySem.W.mg_of X G a_is_word,
    F_is_class_name := fun_mk (st := s_is_class_name) l_is_class_name c_is_class_name k_is_class_name,
    b_is_class_name := (fun_mk (st := s_is_class_name) l_is_class_name c_is_class_name k_is_class_name).binds (ps := ["word"]) fun _ _ _ _ _ _ us hl => match us, hl with | [_], _ => rfl,
    g_is_class_name := PySem.W.mg_of X G a_is_class_name,
    F_is_field_name := fun_mk (st := s_is_field_name) l_is_field_name c_is_field_name k_is_field_name,
    b_is_field_name := (fun_mk (st := s_is_field_name) l_is_field_name c_is_field_name k_is_field_name).binds (ps := ["word"]) fun _ _ _ _ _ _ us hl => match us, hl with | [_], _ => rfl,
    g_is_field_name := PySem.W.mg_of X G a_is_field_name,
    F_arity_of := fun_mk (st := s_arity_of) l_arity_of c_arity_of k_arity_of,
    b_arity_of := (fun_mk (st := s_arity_of) l_arity_of c_arity_of k_arity_of).binds (ps := ["sign"]) fun _ _ _ _ _ _ us hl => match us, hl with | [_], _ => rfl,
    g_arity_of := PySem.W.mg_of X G a_arity_of,
    F_makers_for := fun_mk (st := s_makers_for) l_makers_for c_makers_for k_makers_for,
    b_makers_for := (fun_mk (st := s_makers_for) l_makers_for c_makers_for k_makers_for).binds (ps := ["arity", "has_hook"]) fun _ _ _ _ _ _ us hl => match us, hl with | [_, _], _ => rfl,
    g_makers_for := PySem.W.mg_of X G a_makers_for,
    F_LibraryDraft_init := fun_mk (st := s_LibraryDraft_init) l_LibraryDraft_init c_LibraryDraft_init k_LibraryDraft_init,
    b_LibraryDraft_init := (fun_mk (st := s_LibraryDraft_init) l_LibraryDraft_init c_LibraryDraft_init k_LibraryDraft_init).binds (ps := ["self"]) fun _ _ _ _ _ _ us hl => match us, hl with | [_], _ => rfl,
    m_LibraryDraft_init := ⟨a_LibraryDraft_init, i_LibraryDraft_init, k_LibraryDraft_init⟩,
    F_LibraryDraft_takes_line := fun_mk (st := s_LibraryDraft_takes_line) l_LibraryDraft_takes_line c_LibraryDraft_takes_line k_LibraryDraft_takes_line,
    b_LibraryDraft_takes_line := (fun_mk (st := s_LibraryDraft_takes_line) l_LibraryDraft_takes_line c_LibraryDraft_takes_line k_LibraryDraft_takes_line).binds (ps := ["self", "words"]) fun _ _ _ _ _ _ us hl => match us, hl with | [_, _], _ => rfl,
    m_LibraryDraft_takes_line := ⟨a_LibraryDraft_takes_line, i_LibraryDraft_takes_line, k_LibraryDraft_takes_line⟩,
    F_LibraryDraft_takes_name := fun_mk (st := s_LibraryDraft_takes_name) l_LibraryDraft_takes_name c_LibraryDraft_takes_name k_LibraryDraft_takes_name,
    b_LibraryDraft_takes_name := (fun_mk (st := s_LibraryDraft_takes_name) l_LibraryDraft_takes_name c_LibraryDraft_takes_name k_LibraryDraft_takes_name).binds (ps := ["self", "words"]) fun _ _ _ _ _ _ us hl => match us, hl with | [_, _], _ => rfl,
    m_LibraryDraft_takes_name := ⟨a_LibraryDraft_takes_name, i_LibraryDraft_takes_name, k_LibraryDraft_takes_name⟩,
    F_LibraryDraft_is_new := fun_mk (st := s_LibraryDraft_is_new) l_LibraryDraft_is_new c_LibraryDraft_is_new k_LibraryDraft_is_new,
    b_LibraryDraft_is_new := (fun_mk (st := s_LibraryDraft_is_new) l_LibraryDraft_is_new c_LibraryDraft_is_new k_LibraryDraft_is_new).binds (ps := ["self", "word"]) fun _ _ _ _ _ _ us hl => match us, hl with | [_, _], _ => rfl,
    m_LibraryDraft_is_new := ⟨a_LibraryDraft_is_new, i_LibraryDraft_is_new, k_LibraryDraft_is_new⟩,
    F_LibraryDraft_takes_needs := fun_mk (st := s_LibraryDraft_takes_needs) l_LibraryDraft_takes_needs c_LibraryDraft_takes_needs k_LibraryDraft_takes_needs,
    b_LibraryDraft_takes_needs := (fun_mk (st := s_LibraryDraft_takes_needs) l_LibraryDraft_takes_needs c_LibraryDraft_takes_needs k_LibraryDraft_takes_needs).binds (ps := ["self", "words"]) fun _ _ _ _ _ _ us hl => match us, hl with | [_, _], _ => rfl,
    m_LibraryDraft_takes_needs := ⟨a_LibraryDraft_takes_needs, i_LibraryDraft_takes_needs, k_LibraryDraft_takes_needs⟩,
    F_LibraryDraft_takes_keeps := fun_mk (st := s_LibraryDraft_takes_keeps) l_LibraryDraft_takes_keeps c_LibraryDraft_takes_keeps k_LibraryDraft_takes_keeps,
    b_LibraryDraft_takes_keeps := (fun_mk (st := s_LibraryDraft_takes_keeps) l_LibraryDraft_takes_keeps c_LibraryDraft_takes_keeps k_LibraryDraft_takes_keeps).binds (ps := ["self", "words"]) fun _ _ _ _ _ _ us hl => match us, hl with | [_, _], _ => rfl,
    m_LibraryDraft_takes_keeps := ⟨a_LibraryDraft_takes_keeps, i_LibraryDraft_takes_keeps, k_LibraryDraft_takes_keeps⟩,
    F_LibraryDraft_takes_hook := fun_mk (st := s_LibraryDraft_takes_hook) l_LibraryDraft_takes_hook c_LibraryDraft_takes_hook k_LibraryDraft_takes_hook,
    b_LibraryDraft_takes_hook := (fun_mk (st := s_LibraryDraft_takes_hook) l_LibraryDraft_takes_hook c_LibraryDraft_takes_hook k_LibraryDraft_takes_hook).binds (ps := ["self", "words"]) fun _ _ _ _ _ _ us hl => match us, hl with | [_, _], _ => rfl,
    m_LibraryDraft_takes_hook := ⟨a_LibraryDraft_takes_hook, i_LibraryDraft_takes_hook, k_LibraryDraft_takes_hook⟩,
    F_LibraryDraft_takes_request := fun_mk (st := s_LibraryDraft_takes_request) l_LibraryDraft_takes_request c_LibraryDraft_takes_request k_LibraryDraft_takes_request,
    b_LibraryDraft_takes_request := (fun_mk (st := s_LibraryDraft_takes_request) l_LibraryDraft_takes_request c_LibraryDraft_takes_request k_LibraryDraft_takes_request).binds (ps := ["self", "words"]) fun _ _ _ _ _ _ us hl => match us, hl with | [_, _], _ => rfl,
    m_LibraryDraft_takes_request := ⟨a_LibraryDraft_takes_request, i_LibraryDraft_takes_request, k_LibraryDraft_takes_request⟩,
    F_LibraryDraft_takes_operation := fun_mk (st := s_LibraryDraft_takes_operation) l_LibraryDraft_takes_operation c_LibraryDraft_takes_operation k_LibraryDraft_takes_operation,
    b_LibraryDraft_takes_operation := (fun_mk (st := s_LibraryDraft_takes_operation) l_LibraryDraft_takes_operation c_LibraryDraft_takes_operation k_LibraryDraft_takes_operation).binds (ps := ["self", "words"]) fun _ _ _ _ _ _ us hl => match us, hl with | [_, _], _ => rfl,
    m_LibraryDraft_takes_operation := ⟨a_LibraryDraft_takes_operation, i_LibraryDraft_takes_operation, k_LibraryDraft_takes_operation⟩,
    F_LibraryDraft_takes_row := fun_mk (st := s_LibraryDraft_takes_row) l_LibraryDraft_takes_row c_LibraryDraft_takes_row k_LibraryDraft_takes_row,
    b_LibraryDraft_takes_row := (fun_mk (st := s_LibraryDraft_takes_row) l_LibraryDraft_takes_row c_LibraryDraft_takes_row k_LibraryDraft_takes_row).binds (ps := ["self", "sign", "changed", "maker"]) fun _ _ _ _ _ _ us hl => match us, hl with | [_, _, _, _], _ => rfl,
    m_LibraryDraft_takes_row := ⟨a_LibraryDraft_takes_row, i_LibraryDraft_takes_row, k_LibraryDraft_takes_row⟩,
    F_Library_init := fun_mk (st := s_Library_init) l_Library_init c_Library_init k_Library_init,
    b_Library_init := (fun_mk (st := s_Library_init) l_Library_init c_Library_init k_Library_init).binds (ps := ["self", "name", "root_parameters", "kept", "root_hook", "rows"]) fun _ _ _ _ _ _ us hl => match us, hl with | [_, _, _, _, _, _], _ => rfl,
    m_Library_init := ⟨a_Library_init, i_Library_init, k_Library_init⟩,
    F_Library_text_lines := fun_mk (st := s_Library_text_lines) l_Library_text_lines c_Library_text_lines k_Library_text_lines,
    b_Library_text_lines := (fun_mk (st := s_Library_text_lines) l_Library_text_lines c_Library_text_lines k_Library_text_lines).binds (ps := ["self"]) fun _ _ _ _ _ _ us hl => match us, hl with | [_], _ => rfl,
    m_Library_text_lines := ⟨a_Library_text_lines, i_Library_text_lines, k_Library_text_lines⟩,
    F_Library_read := fun_mk (st := s_Library_read) l_Library_read c_Library_read k_Library_read,
    b_Library_read := (fun_mk (st := s_Library_read) l_Library_read c_Library_read k_Library_read).binds (ps := ["cls", "text"]) fun _ _ _ _ _ _ us hl => match us, hl with | [_, _], _ => rfl,
    cm_Library_read := ⟨a_Library_read, ⟨_, rc_Library_read⟩, fi_Library_read⟩,
    F_Library_str := fun_mk (st := s_Library_str) l_Library_str c_Library_str k_Library_str,
    b_Library_str := (fun_mk (st := s_Library_str) l_Library_str c_Library_str k_Library_str).binds (ps := ["self"]) fun _ _ _ _ _ _ us hl => match us, hl with | [_], _ => rfl,
    m_Library_str := ⟨a_Library_str, i_Library_str, k_Library_str⟩,
    F_law_bag := fun_mk (st := s_law_bag) l_law_bag c_law_bag k_law_bag,
    b_law_bag := (fun_mk (st := s_law_bag) l_law_bag c_law_bag k_law_bag).binds (ps := ["_law_script", "_law_at_here", "_law_salt"]) fun _ _ _ _ _ _ us hl => match us, hl with | [_, _, _], _ => rfl,
    g_law_bag := PySem.W.mg_of X G a_law_bag,
    F_law_take := fun_mk (st := s_law_take) l_law_take c_law_take k_law_take,
    b_law_take := (fun_mk (st := s_law_take) l_law_take c_law_take k_law_take).binds (ps := ["_law_bag_here", "_law_many"]) fun _ _ _ _ _ _ us hl => match us, hl with | [_, _], _ => rfl,
    g_law_take := PySem.W.mg_of X G a_law_take,
    F_law_of := fun_mk (st := s_law_of) l_law_of c_law_of k_law_of,
    b_law_of := (fun_mk (st := s_law_of) l_law_of c_law_of k_law_of).binds (ps := ["_law_bag_here", "_law_some"]) fun _ _ _ _ _ _ us hl => match us, hl with | [_, _], _ => rfl,
    g_law_of := PySem.W.mg_of X G a_law_of,
    F_law_words := fun_mk (st := s_law_words) l_law_words c_law_words k_law_words,
    b_law_words := (fun_mk (st := s_law_words) l_law_words c_law_words k_law_words).binds (ps := ["_law_bag_here", "_law_many"]) fun _ _ _ _ _ _ us hl => match us, hl with | [_, _], _ => rfl,
    g_law_words := PySem.W.mg_of X G a_law_words,
    F_law_titles := fun_mk (st := s_law_titles) l_law_titles c_law_titles k_law_titles,
    b_law_titles := (fun_mk (st := s_law_titles) l_law_titles c_law_titles k_law_titles).binds (ps := ["_law_bag_here", "_law_many"]) fun _ _ _ _ _ _ us hl => match us, hl with | [_, _], _ => rfl,
    g_law_titles := PySem.W.mg_of X G a_law_titles,
    F_law_makers := fun_mk (st := s_law_makers) l_law_makers c_law_makers k_law_makers,
    b_law_makers := (fun_mk (st := s_law_makers) l_law_makers c_law_makers k_law_makers).binds (ps := ["_law_arity", "_law_hooked"]) fun _ _ _ _ _ _ us hl => match us, hl with | [_, _], _ => rfl,
    g_law_makers := PySem.W.mg_of X G a_law_makers,
    F_law_library := fun_mk (st := s_law_library) l_law_library c_law_library k_law_library,
    b_law_library := (fun_mk (st := s_law_library) l_law_library c_law_library k_law_library).binds (ps := ["_law_bag_here", "_law_fields", "_law_name", "_law_most"]) fun _ _ _ _ _ _ us hl => match us, hl with | [_, _, _, _], _ => rfl,
    g_law_library := PySem.W.mg_of X G a_law_library,
    F_law_lines := fun_mk (st := s_law_lines) l_law_lines c_law_lines k_law_lines,
    b_law_lines := (fun_mk (st := s_law_lines) l_law_lines c_law_lines k_law_lines).binds (ps := ["_law_lib"]) fun _ _ _ _ _ _ us hl => match us, hl with | [_], _ => rfl,
    g_law_lines := PySem.W.mg_of X G a_law_lines,
    F_law_wrong_fields := fun_mk (st := s_law_wrong_fields) l_law_wrong_fields c_law_wrong_fields k_law_wrong_fields,
    b_law_wrong_fields := (fun_mk (st := s_law_wrong_fields) l_law_wrong_fields c_law_wrong_fields k_law_wrong_fields).binds (ps := ["_law_lib", "_law_lines_here", "_law_at_here"]) fun _ _ _ _ _ _ us hl => match us, hl with | [_, _, _], _ => rfl,
    g_law_wrong_fields := PySem.W.mg_of X G a_law_wrong_fields,
    F_law_wrong_operations := fun_mk (st := s_law_wrong_operations) l_law_wrong_operations c_law_wrong_operations k_law_wrong_operations,
    b_law_wrong_operations := (fun_mk (st := s_law_wrong_operations) l_law_wrong_operations c_law_wrong_operations k_law_wrong_operations).binds (ps := ["_law_lib", "_law_row"]) fun _ _ _ _ _ _ us hl => match us, hl with | [_, _], _ => rfl,
    g_law_wrong_operations := PySem.W.mg_of X G a_law_wrong_operations,
    F_law_wrong := fun_mk (st := s_law_wrong) l_law_wrong c_law_wrong k_law_wrong,
    b_law_wrong := (fun_mk (st := s_law_wrong) l_law_wrong c_law_wrong k_law_wrong).binds (ps := ["_law_lib", "_law_lines_here", "_law_at_here"]) fun _ _ _ _ _ _ us hl => match us, hl with | [_, _, _], _ => rfl,
    g_law_wrong := PySem.W.mg_of X G a_law_wrong,
    F_law_at := fun_mk (st := s_law_at) l_law_at c_law_at k_law_at,
    b_law_at := (fun_mk (st := s_law_at) l_law_at c_law_at k_law_at).binds (ps := ["_law_thing"]) fun _ _ _ _ _ _ us hl => match us, hl with | [_], _ => rfl,
    g_law_at := PySem.W.mg_of X G a_law_at,
    F_law := fun_mk (st := s_law) l_law c_law k_law,
    b_law := (fun_mk (st := s_law) l_law c_law k_law).binds (ps := ["_law_script"]) fun _ _ _ _ _ _ us hl => match us, hl with | [_], _ => rfl,
    g_law := PySem.W.mg_of X G a_law,
    g_LibraryDraft := PySem.W.mg_of X G a_C_LibraryDraft,
    cl_LibraryDraft := ⟨pg_LibraryDraft, hd_LibraryDraft, po_LibraryDraft, sa_LibraryDraft⟩,
    ty_LibraryDraft := ⟨⟨pg_LibraryDraft, hd_LibraryDraft, po_LibraryDraft, sa_LibraryDraft⟩, hc_LibraryDraft, hnC, htC, mo_LibraryDraft, ic_LibraryDraft, ty_LibraryDraft⟩,
    cr_LibraryDraft := ⟨rd_LibraryDraft, ga_LibraryDraft⟩,
    mk_LibraryDraft := ⟨mk_LibraryDraft, a_LibraryDraft_init, i_LibraryDraft_init, kc_LibraryDraft⟩,
    no_LibraryDraft_name := no_LibraryDraft_name,
    no_LibraryDraft_parts := no_LibraryDraft_parts,
    no_LibraryDraft_keeping := no_LibraryDraft_keeping,
    no_LibraryDraft_root_hook := no_LibraryDraft_root_hook,
    no_LibraryDraft_rows := no_LibraryDraft_rows,
    g_Library := PySem.W.mg_of X G a_C_Library,
    cl_Library := ⟨pg_Library, hd_Library, po_Library, sa_Library⟩,
    ty_Library := ⟨⟨pg_Library, hd_Library, po_Library, sa_Library⟩, hc_Library, hnC, htC, mo_Library, ic_Library, ty_Library⟩,
    cr_Library := ⟨rd_Library, ga_Library⟩,
    mk_Library := ⟨mk_Library, a_Library_init, i_Library_init, kc_Library⟩,
    no_Library_name := no_Library_name,
    no_Library_root_parameters := no_Library_root_parameters,
    no_Library_kept := no_Library_kept,
    no_Library_root_hook := no_Library_root_hook,
    no_Library_rows := no_Library_rows,
    no_Library_order := no_Library_order,
    no_Library_changes := no_Library_changes,
    no_Library_made_by := no_Library_made_by,
    no_Library_text := no_Library_text,
    g_BadLibrary := PySem.W.mg_of X G a_C_BadLibrary,
    ty_BadLibrary := ty_BadLibrary,
    ic_BadLibrary := ic_BadLibrary,
    sb_BadLibrary := sb_BadLibrary,
    xf_BadLibrary := ⟨ga_BadLibrary, gg_BadLibrary, sb_BadLibrary, hd_BadLibrary⟩,
    xc_BadLibrary := ⟨ga_BadLibrary, gg_BadLibrary, sb_BadLibrary, hd_BadLibrary, hc_BadLibrary, hnC, htC, mo_BadLibrary⟩,
    ox_BadLibrary := ⟨⟨_, _, _, _, _, _, _, _, _, _, _, _, _, _, _, lk_BadLibrary, rv_BadLibrary⟩, sa_BadLibrary, sb_BadLibrary, ty_BadLibrary, kc_BadLibrary⟩,
    xt_BadLibrary := xt_BadLibrary,
    no_BadLibrary_at := no_BadLibrary_at,
    g_BadWorld := PySem.W.mg_of X G a_C_BadWorld,
    ty_BadWorld := ty_BadWorld,
    ic_BadWorld := ic_BadWorld,
    sb_BadWorld := sb_BadWorld,
    g_HeirsbackError := PySem.W.mg_of X G a_C_HeirsbackError,
    ty_HeirsbackError := ty_HeirsbackError,
    ic_HeirsbackError := ic_HeirsbackError,
    sb_HeirsbackError := sb_HeirsbackError,
    g_CAPITALS := PySem.W.mg_of X G a_CAPITALS,
    g_LETTERS := PySem.W.mg_of X G a_LETTERS,
    g_BINARY_SIGNS := PySem.W.mg_of X G a_BINARY_SIGNS,
    q_BINARY_SIGNS := fun _ => .inr ⟨_, _, _, lk_BINARY_SIGNS, rfl, rfl, (by show 9 ≤ sizeLine; decide), .cons ⟨_, rfl⟩ (.cons ⟨_, rfl⟩ (.cons ⟨_, rfl⟩ (.cons ⟨_, rfl⟩ (.cons ⟨_, rfl⟩ (.cons ⟨_, rfl⟩ (.cons ⟨_, rfl⟩ (.cons ⟨_, rfl⟩ (.cons ⟨_, rfl⟩ (.nil)))))))))⟩,
    g_UNARY_SIGNS := PySem.W.mg_of X G a_UNARY_SIGNS,
    q_UNARY_SIGNS := fun _ => .inr ⟨_, _, _, lk_UNARY_SIGNS, rfl, rfl, (by show 4 ≤ sizeLine; decide), .cons ⟨_, rfl⟩ (.cons ⟨_, rfl⟩ (.cons ⟨_, rfl⟩ (.cons ⟨_, rfl⟩ (.nil))))⟩,
    g_BARRED := PySem.W.mg_of X G a_BARRED,
    q_BARRED := fun _ => .inr ⟨_, _, _, lk_BARRED, rfl, rfl, (by show 6 ≤ sizeLine; decide), .cons ⟨_, rfl⟩ (.cons ⟨_, rfl⟩ (.cons ⟨_, rfl⟩ (.cons ⟨_, rfl⟩ (.cons ⟨_, rfl⟩ (.cons ⟨_, rfl⟩ (.nil))))))⟩,
    g_HOOKS := PySem.W.mg_of X G a_HOOKS,
    q_HOOKS := fun _ => .inr ⟨_, _, _, lk_HOOKS, rfl, rfl, (by show 5 ≤ sizeLine; decide), .cons ⟨_, rfl⟩ (.cons ⟨_, rfl⟩ (.cons ⟨_, rfl⟩ (.cons ⟨_, rfl⟩ (.cons ⟨_, rfl⟩ (.nil)))))⟩,
    g_MOST_LETTERS := PySem.W.mg_of X G a_MOST_LETTERS,
    g_MOST_PARAMETERS := PySem.W.mg_of X G a_MOST_PARAMETERS,
    g_MOST_KEPT := PySem.W.mg_of X G a_MOST_KEPT,
    g_MOST_OPERATIONS := PySem.W.mg_of X G a_MOST_OPERATIONS,
    g_MAKERS := PySem.W.mg_of X G a_MAKERS,
    dk_MAKERS := ⟨_, _, lk_MAKERS, ⟨⟨_, rfl⟩, (by show 0 = hashInt 0; decide +kernel), rfl, ⟨⟨_, rfl⟩, (by show 1 = hashInt 1; decide +kernel), rfl, ⟨⟨_, rfl⟩, (by show 2 = hashInt 2; decide +kernel), rfl, trivial⟩⟩⟩⟩,
    q_MAKERS_0 := fun _ => .inr ⟨_, _, _, lk_MAKERS_0, rfl, rfl, (by show 4 ≤ sizeLine; decide), .cons ⟨_, rfl⟩ (.cons ⟨_, rfl⟩ (.cons ⟨_, rfl⟩ (.cons ⟨_, rfl⟩ (.nil))))⟩,
    q_MAKERS_1 := fun _ => .inr ⟨_, _, _, lk_MAKERS_1, rfl, rfl, (by show 7 ≤ sizeLine; decide), .cons ⟨_, rfl⟩ (.cons ⟨_, rfl⟩ (.cons ⟨_, rfl⟩ (.cons ⟨_, rfl⟩ (.cons ⟨_, rfl⟩ (.cons ⟨_, rfl⟩ (.cons ⟨_, rfl⟩ (.nil)))))))⟩,
    q_MAKERS_2 := fun _ => .inr ⟨_, _, _, lk_MAKERS_2, rfl, rfl, (by show 17 ≤ sizeLine; decide), .cons ⟨_, rfl⟩ (.cons ⟨_, rfl⟩ (.cons ⟨_, rfl⟩ (.cons ⟨_, rfl⟩ (.cons ⟨_, rfl⟩ (.cons ⟨_, rfl⟩ (.cons ⟨_, rfl⟩ (.cons ⟨_, rfl⟩ (.cons ⟨_, rfl⟩ (.cons ⟨_, rfl⟩ (.cons ⟨_, rfl⟩ (.cons ⟨_, rfl⟩ (.cons ⟨_, rfl⟩ (.cons ⟨_, rfl⟩ (.cons ⟨_, rfl⟩ (.cons ⟨_, rfl⟩ (.cons ⟨_, rfl⟩ (.nil)))))))))))))))))⟩,
    su_bl := su_bl,
    su_bw := su_bw,
    su_bh := su_bh,
    su_bv := su_bv,
    su_bk := su_bk,
    xhd_hb := xhd_hb,
    xhd_bw := xhd_bw,
    n_LookupError := PySem.W.mg_none_of X G n_LookupError,
    n_ValueError := PySem.W.mg_none_of X G n_ValueError,
    n_abs := PySem.W.mg_none_of X G n_abs,
    n_all := PySem.W.mg_none_of X G n_all,
    n_bool := PySem.W.mg_none_of X G n_bool,
    n_enumerate := PySem.W.mg_none_of X G n_enumerate,
    n_int := PySem.W.mg_none_of X G n_int,
    n_isinstance := PySem.W.mg_none_of X G n_isinstance,
    n_len := PySem.W.mg_none_of X G n_len,
    n_list := PySem.W.mg_none_of X G n_list,
    n_max := PySem.W.mg_none_of X G n_max,
    n_min := PySem.W.mg_none_of X G n_min,
    n_range := PySem.W.mg_none_of X G n_range,
    n_str := PySem.W.mg_none_of X G n_str,
    n_tuple := PySem.W.mg_none_of X G n_tuple }
  exact ⟨_, fun s v => .of_eq rfl, fun base _ _ => ok_law T⟩
theorem walk {l : PySem.W.OpenLaw} {q : Program} {loose : List Str} {XP : (Str → Option Value) → Heap → Prop} {YP : World → Heap → Prop} {d : DefRec} {K : Params → PySem.W.Frag} (hn : l.most = some 63) (hdf : d.params.defaults = [])
    (hY : ∀ (w : World) (h : Heap), YP w h → (K w.params).In h)
    (F : ∀ (w : World) (mg : Str → Option Value) (fa : Addr) (h : Heap), (K w.params).In h → h.Ns mainGlobals mg → mg d.name = some (.ref fa) →
      ∃ fd : FuncData, (∀ (s : Shared) (u : Value), BindsTo s fd ⟨[u], []⟩ [("_law_script", u)]) ∧ ∀ base : Heap, (K w.params).In base → base.Ns mainGlobals mg → FnOk l.prog w (K w.params) mg base CX0 8 fa fd ["_law_script"] (sp_law (K w.params))) :
    PySem.W.WalkO q loose XP YP l.row.toRowW d [] (fun f vs => PySem.call f vs) :=
  L2.walk_ofB (n := 63) (k := 8) (x := "_law_script") (CX := fun _ => CX0) (sp := fun w => sp_law (K w.params)) hn (by decide) hdf ⟨rfl, by decide, by decide⟩ hY F (fun _ _ a ns hl hb _ hS => ⟨a, ns, rfl, hS, hl, fun _ => rfl⟩) fun _ _ _ _ _ z => z
end Lb
open PySem PySem.W PyProof.Rows
set_option maxRecDepth 100000 in
set_option maxHeartbeats 0 in
theorem PySem.Challenge.cw_heirsback_k02_libraries_refused_holds : PySem.Challenge.rw_heirsback_k02_libraries_refused.Holds := by
  refine hd ?_
  k_fill
  refine Lb.walk (l := PySem.Challenge.rw_heirsback_k02_libraries_refused) rfl rfl (fun w h Y => PySem.W.kIn_of Y) ?F
  case F =>
    intro w mg fa h KX G hmg
    have hmg : mg "law" = some (.ref fa) := hmg
    refine' Lb.all_mk KX G hmg ?a_C_LibraryDraft ?a_C_Library ?a_C_BadLibrary ?a_C_BadWorld ?a_C_HeirsbackError ?a_BadLibrary_init ?i_BadLibrary_init ?l_BadLibrary_init ?c_BadLibrary_init ?k_BadLibrary_init ?a_is_word ?l_is_word ?c_is_word ?k_is_word ?a_is_class_name ?l_is_class_name ?c_is_class_name ?k_is_class_name ?a_is_field_name ?l_is_field_name ?c_is_field_name ?k_is_field_name ?a_arity_of ?l_arity_of ?c_arity_of ?k_arity_of ?a_makers_for ?l_makers_for ?c_makers_for ?k_makers_for ?a_LibraryDraft_init ?i_LibraryDraft_init ?l_LibraryDraft_init ?c_LibraryDraft_init ?k_LibraryDraft_init ?a_LibraryDraft_takes_line ?i_LibraryDraft_takes_line ?l_LibraryDraft_takes_line ?c_LibraryDraft_takes_line ?k_LibraryDraft_takes_line ?a_LibraryDraft_takes_name ?i_LibraryDraft_takes_name ?l_LibraryDraft_takes_name ?c_LibraryDraft_takes_name ?k_LibraryDraft_takes_name ?a_LibraryDraft_is_new ?i_LibraryDraft_is_new ?l_LibraryDraft_is_new ?c_LibraryDraft_is_new ?k_LibraryDraft_is_new ?a_LibraryDraft_takes_needs ?i_LibraryDraft_takes_needs ?l_LibraryDraft_takes_needs ?c_LibraryDraft_takes_needs ?k_LibraryDraft_takes_needs ?a_LibraryDraft_takes_keeps ?i_LibraryDraft_takes_keeps ?l_LibraryDraft_takes_keeps ?c_LibraryDraft_takes_keeps ?k_LibraryDraft_takes_keeps ?a_LibraryDraft_takes_hook ?i_LibraryDraft_takes_hook ?l_LibraryDraft_takes_hook ?c_LibraryDraft_takes_hook ?k_LibraryDraft_takes_hook ?a_LibraryDraft_takes_request ?i_LibraryDraft_takes_request ?l_LibraryDraft_takes_request ?c_LibraryDraft_takes_request ?k_LibraryDraft_takes_request ?a_LibraryDraft_takes_operation ?i_LibraryDraft_takes_operation ?l_LibraryDraft_takes_operation ?c_LibraryDraft_takes_operation ?k_LibraryDraft_takes_operation ?a_LibraryDraft_takes_row ?i_LibraryDraft_takes_row ?l_LibraryDraft_takes_row ?c_LibraryDraft_takes_row ?k_LibraryDraft_takes_row ?a_Library_init ?i_Library_init ?l_Library_init ?c_Library_init ?k_Library_init ?a_Library_text_lines ?i_Library_text_lines ?l_Library_text_lines ?c_Library_text_lines ?k_Library_text_lines ?a_Library_read ?rc_Library_read ?fi_Library_read ?l_Library_read ?c_Library_read ?k_Library_read ?a_Library_str ?i_Library_str ?l_Library_str ?c_Library_str ?k_Library_str ?a_law_bag ?l_law_bag ?c_law_bag ?k_law_bag ?a_law_take ?l_law_take ?c_law_take ?k_law_take ?a_law_of ?l_law_of ?c_law_of ?k_law_of ?a_law_words ?l_law_words ?c_law_words ?k_law_words ?a_law_titles ?l_law_titles ?c_law_titles ?k_law_titles ?a_law_makers ?l_law_makers ?c_law_makers ?k_law_makers ?a_law_library ?l_law_library ?c_law_library ?k_law_library ?a_law_lines ?l_law_lines ?c_law_lines ?k_law_lines ?a_law_wrong_fields ?l_law_wrong_fields ?c_law_wrong_fields ?k_law_wrong_fields ?a_law_wrong_operations ?l_law_wrong_operations ?c_law_wrong_operations ?k_law_wrong_operations ?a_law_wrong ?l_law_wrong ?c_law_wrong ?k_law_wrong ?a_law_at ?l_law_at ?c_law_at ?k_law_at ?a_law ?l_law ?c_law ?k_law ?pg_LibraryDraft ?hd_LibraryDraft ?po_LibraryDraft ?sa_LibraryDraft ?mk_LibraryDraft ?kc_LibraryDraft ?rd_LibraryDraft ?ga_LibraryDraft ?mo_LibraryDraft ?hc_LibraryDraft ?ic_LibraryDraft ?ty_LibraryDraft ?no_LibraryDraft_name ?no_LibraryDraft_parts ?no_LibraryDraft_keeping ?no_LibraryDraft_root_hook ?no_LibraryDraft_rows ?pg_Library ?hd_Library ?po_Library ?sa_Library ?mk_Library ?kc_Library ?rd_Library ?ga_Library ?mo_Library ?hc_Library ?ic_Library ?ty_Library ?no_Library_name ?no_Library_root_parameters ?no_Library_kept ?no_Library_root_hook ?no_Library_rows ?no_Library_order ?no_Library_changes ?no_Library_made_by ?no_Library_text ?ty_BadLibrary ?ic_BadLibrary ?sb_BadLibrary ?lk_BadLibrary ?rv_BadLibrary ?sa_BadLibrary ?kc_BadLibrary ?xt_BadLibrary ?no_BadLibrary_at ?ga_BadLibrary ?gg_BadLibrary ?hd_BadLibrary ?hc_BadLibrary ?mo_BadLibrary ?ty_BadWorld ?ic_BadWorld ?sb_BadWorld ?ty_HeirsbackError ?ic_HeirsbackError ?sb_HeirsbackError ?hnC ?htC ?a_CAPITALS ?a_LETTERS ?a_BINARY_SIGNS ?lk_BINARY_SIGNS ?a_UNARY_SIGNS ?lk_UNARY_SIGNS ?a_BARRED ?lk_BARRED ?a_HOOKS ?lk_HOOKS ?a_MOST_LETTERS ?a_MOST_PARAMETERS ?a_MOST_KEPT ?a_MOST_OPERATIONS ?a_MAKERS ?lk_MAKERS ?lk_MAKERS_0 ?lk_MAKERS_1 ?lk_MAKERS_2 ?su_bl ?su_bw ?su_bh ?su_bv ?su_bk ?xhd_hb ?xhd_bw ?n_LookupError ?n_ValueError ?n_abs ?n_all ?n_bool ?n_enumerate ?n_int ?n_isinstance ?n_len ?n_list ?n_max ?n_min ?n_range ?n_str ?n_tuple
    (case a_C_LibraryDraft => k_is)
    (case a_C_Library => k_is)
    (case a_C_BadLibrary => k_is)
    (case a_C_BadWorld => k_is)
    (case a_C_HeirsbackError => k_is)
    (case a_BadLibrary_init => k_is)
    (case i_BadLibrary_init => k_is)
    (case l_BadLibrary_init => k_is)
    (case c_BadLibrary_init => k_is)
    (case k_BadLibrary_init => k_is)
    (case a_is_word => k_is)
    (case l_is_word => k_is)
    (case c_is_word => k_is)
    (case k_is_word => k_is)
    (case a_is_class_name => k_is)
    (case l_is_class_name => k_is)
    (case c_is_class_name => k_is)
    (case k_is_class_name => k_is)
    (case a_is_field_name => k_is)
    (case l_is_field_name => k_is)
    (case c_is_field_name => k_is)
    (case k_is_field_name => k_is)
    (case a_arity_of => k_is)
    (case l_arity_of => k_is)
    (case c_arity_of => k_is)
    (case k_arity_of => k_is)
    (case a_makers_for => k_is)
    (case l_makers_for => k_is)
    (case c_makers_for => k_is)
    (case k_makers_for => k_is)
    (case a_LibraryDraft_init => k_is)
    (case i_LibraryDraft_init => k_is)
    (case l_LibraryDraft_init => k_is)
    (case c_LibraryDraft_init => k_is)
    (case k_LibraryDraft_init => k_is)
    (case a_LibraryDraft_takes_line => k_is)
    (case i_LibraryDraft_takes_line => k_is)
    (case l_LibraryDraft_takes_line => k_is)
    (case c_LibraryDraft_takes_line => k_is)
    (case k_LibraryDraft_takes_line => k_is)
    (case a_LibraryDraft_takes_name => k_is)
    (case i_LibraryDraft_takes_name => k_is)
    (case l_LibraryDraft_takes_name => k_is)
    (case c_LibraryDraft_takes_name => k_is)
    (case k_LibraryDraft_takes_name => k_is)
    (case a_LibraryDraft_is_new => k_is)
    (case i_LibraryDraft_is_new => k_is)
    (case l_LibraryDraft_is_new => k_is)
    (case c_LibraryDraft_is_new => k_is)
    (case k_LibraryDraft_is_new => k_is)
    (case a_LibraryDraft_takes_needs => k_is)
    (case i_LibraryDraft_takes_needs => k_is)
    (case l_LibraryDraft_takes_needs => k_is)
    (case c_LibraryDraft_takes_needs => k_is)
    (case k_LibraryDraft_takes_needs => k_is)
    (case a_LibraryDraft_takes_keeps => k_is)
    (case i_LibraryDraft_takes_keeps => k_is)
    (case l_LibraryDraft_takes_keeps => k_is)
    (case c_LibraryDraft_takes_keeps => k_is)
    (case k_LibraryDraft_takes_keeps => k_is)
    (case a_LibraryDraft_takes_hook => k_is)
    (case i_LibraryDraft_takes_hook => k_is)
    (case l_LibraryDraft_takes_hook => k_is)
    (case c_LibraryDraft_takes_hook => k_is)
    (case k_LibraryDraft_takes_hook => k_is)
    (case a_LibraryDraft_takes_request => k_is)
    (case i_LibraryDraft_takes_request => k_is)
    (case l_LibraryDraft_takes_request => k_is)
    (case c_LibraryDraft_takes_request => k_is)
    (case k_LibraryDraft_takes_request => k_is)
    (case a_LibraryDraft_takes_operation => k_is)
    (case i_LibraryDraft_takes_operation => k_is)
    (case l_LibraryDraft_takes_operation => k_is)
    (case c_LibraryDraft_takes_operation => k_is)
    (case k_LibraryDraft_takes_operation => k_is)
    (case a_LibraryDraft_takes_row => k_is)
    (case i_LibraryDraft_takes_row => k_is)
    (case l_LibraryDraft_takes_row => k_is)
    (case c_LibraryDraft_takes_row => k_is)
    (case k_LibraryDraft_takes_row => k_is)
    (case a_Library_init => k_is)
    (case i_Library_init => k_is)
    (case l_Library_init => k_is)
    (case c_Library_init => k_is)
    (case k_Library_init => k_is)
    (case a_Library_text_lines => k_is)
    (case i_Library_text_lines => k_is)
    (case l_Library_text_lines => k_is)
    (case c_Library_text_lines => k_is)
    (case k_Library_text_lines => k_is)
    (case a_Library_read => k_is)
    (case rc_Library_read => k_is)
    (case fi_Library_read => k_is)
    (case l_Library_read => k_is)
    (case c_Library_read => k_is)
    (case k_Library_read => k_is)
    (case a_Library_str => k_is)
    (case i_Library_str => k_is)
    (case l_Library_str => k_is)
    (case c_Library_str => k_is)
    (case k_Library_str => k_is)
    (case a_law_bag => k_is)
    (case l_law_bag => k_is)
    (case c_law_bag => k_is)
    (case k_law_bag => k_is)
    (case a_law_take => k_is)
    (case l_law_take => k_is)
    (case c_law_take => k_is)
    (case k_law_take => k_is)
    (case a_law_of => k_is)
    (case l_law_of => k_is)
    (case c_law_of => k_is)
    (case k_law_of => k_is)
    (case a_law_words => k_is)
    (case l_law_words => k_is)
    (case c_law_words => k_is)
    (case k_law_words => k_is)
    (case a_law_titles => k_is)
    (case l_law_titles => k_is)
    (case c_law_titles => k_is)
    (case k_law_titles => k_is)
    (case a_law_makers => k_is)
    (case l_law_makers => k_is)
    (case c_law_makers => k_is)
    (case k_law_makers => k_is)
    (case a_law_library => k_is)
    (case l_law_library => k_is)
    (case c_law_library => k_is)
    (case k_law_library => k_is)
    (case a_law_lines => k_is)
    (case l_law_lines => k_is)
    (case c_law_lines => k_is)
    (case k_law_lines => k_is)
    (case a_law_wrong_fields => k_is)
    (case l_law_wrong_fields => k_is)
    (case c_law_wrong_fields => k_is)
    (case k_law_wrong_fields => k_is)
    (case a_law_wrong_operations => k_is)
    (case l_law_wrong_operations => k_is)
    (case c_law_wrong_operations => k_is)
    (case k_law_wrong_operations => k_is)
    (case a_law_wrong => k_is)
    (case l_law_wrong => k_is)
    (case c_law_wrong => k_is)
    (case k_law_wrong => k_is)
    (case a_law_at => k_is)
    (case l_law_at => k_is)
    (case c_law_at => k_is)
    (case k_law_at => k_is)
    (case a_law => k_is)
    (case l_law => k_is)
    (case c_law => k_is)
    (case k_law => k_is)
    (case pg_LibraryDraft => k_is)
    (case hd_LibraryDraft => k_is)
    (case po_LibraryDraft => k_is)
    (case sa_LibraryDraft => k_is)
    (case mk_LibraryDraft => k_is)
    (case kc_LibraryDraft => k_is)
    (case rd_LibraryDraft => k_is)
    (case ga_LibraryDraft => k_is)
    (case mo_LibraryDraft => k_is)
    (case hc_LibraryDraft => k_is)
    (case ic_LibraryDraft => k_is)
    (case ty_LibraryDraft => k_is)
    (case no_LibraryDraft_name => k_is)
    (case no_LibraryDraft_parts => k_is)
    (case no_LibraryDraft_keeping => k_is)
    (case no_LibraryDraft_root_hook => k_is)
    (case no_LibraryDraft_rows => k_is)
    (case pg_Library => k_is)
    (case hd_Library => k_is)
    (case po_Library => k_is)
    (case sa_Library => k_is)
    (case mk_Library => k_is)
    (case kc_Library => k_is)
    (case rd_Library => k_is)
    (case ga_Library => k_is)
    (case mo_Library => k_is)
    (case hc_Library => k_is)
    (case ic_Library => k_is)
    (case ty_Library => k_is)
    (case no_Library_name => k_is)
    (case no_Library_root_parameters => k_is)
    (case no_Library_kept => k_is)
    (case no_Library_root_hook => k_is)
    (case no_Library_rows => k_is)
    (case no_Library_order => k_is)
    (case no_Library_changes => k_is)
    (case no_Library_made_by => k_is)
    (case no_Library_text => k_is)
    (case ty_BadLibrary => k_is)
    (case ic_BadLibrary => k_is)
    (case sb_BadLibrary => k_is)
    (case lk_BadLibrary => k_is)
    (case rv_BadLibrary => first | rfl | decide +kernel)
    (case sa_BadLibrary => k_is)
    (case kc_BadLibrary => k_is)
    (case xt_BadLibrary => k_is)
    (case no_BadLibrary_at => k_is)
    (case ga_BadLibrary => k_is)
    (case gg_BadLibrary => k_is)
    (case hd_BadLibrary => k_is)
    (case hc_BadLibrary => k_is)
    (case mo_BadLibrary => k_is)
    (case ty_BadWorld => k_is)
    (case ic_BadWorld => k_is)
    (case sb_BadWorld => k_is)
    (case ty_HeirsbackError => k_is)
    (case ic_HeirsbackError => k_is)
    (case sb_HeirsbackError => k_is)
    (case hnC => k_is)
    (case htC => k_is)
    (case a_CAPITALS => k_is)
    (case a_LETTERS => k_is)
    (case a_BINARY_SIGNS => k_is)
    (case lk_BINARY_SIGNS => k_is)
    (case a_UNARY_SIGNS => k_is)
    (case lk_UNARY_SIGNS => k_is)
    (case a_BARRED => k_is)
    (case lk_BARRED => k_is)
    (case a_HOOKS => k_is)
    (case lk_HOOKS => k_is)
    (case a_MOST_LETTERS => k_is)
    (case a_MOST_PARAMETERS => k_is)
    (case a_MOST_KEPT => k_is)
    (case a_MOST_OPERATIONS => k_is)
    (case a_MAKERS => k_is)
    (case lk_MAKERS => k_is)
    (case lk_MAKERS_0 => k_is)
    (case lk_MAKERS_1 => k_is)
    (case lk_MAKERS_2 => k_is)
    (case su_bl => k_is)
    (case su_bw => k_is)
    (case su_bh => k_is)
    (case su_bv => k_is)
    (case su_bk => k_is)
    (case xhd_hb => k_is)
    (case xhd_bw => k_is)
    (case n_LookupError => k_is)
    (case n_ValueError => k_is)
    (case n_abs => k_is)
    (case n_all => k_is)
    (case n_bool => k_is)
    (case n_enumerate => k_is)
    (case n_int => k_is)
    (case n_isinstance => k_is)
    (case n_len => k_is)
    (case n_list => k_is)
    (case n_max => k_is)
    (case n_min => k_is)
    (case n_range => k_is)
    (case n_str => k_is)
    (case n_tuple => k_is)
#print axioms PySem.Challenge.cw_heirsback_k02_libraries_refused_holds

